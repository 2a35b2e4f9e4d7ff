import PyProof.Rows.All
import Wide.All
import OpenK.AllK
import Wide.FinOn
import HandS.ForMost
import HandS.ForExc
import KE.KDictKeyed
import HandS.Lambda
import HandS.ExcInit
import HandS.IsInst
import HandS.TupAny
import HandS.TupMul
import HandS.Conv
import HandS.Rev
import HandS.Remove
import PyProof.ReprLen
import HandS.RaiseMore
import KE.KIndexOf
import KE.KDictDisplayH
import KE.GoesMore
import HandS.ExcIs
import HandS.Style
import HandS.More
import HandS.Deep
import PyProof.P3In
import KE.RegKIsAll
import KE.RegKTryMore
import PyProof.Rows.InDataRows
import HandS.EndTab
import HandS.TryOnly
import HandS.EndOwn
import HandS.Text
import HandS.Wide
import KE.GoesZip
import HandS.Zip
import HandS.RaiseOp
import KE.KDictCopyH
import KE.KEqDict
import PyProof.CallStr
import PyProof.EqKinds
import HandS.MakeKwOnly
import KE.KDictItemsList
import PyProof.StrOps2
import HandS.TupSets
import KE.KDictSum
import HandS.List
import HandS.RevRange
import HandS.Defaults
import HandS.Dict
import HandS.SortInts
import HandS.TryMany
import PyProof.ReprRoads
import HandS.HotCalls
import HandS.SuiteRaise
import HandS.ExcInitHot
import HandS.RaiseFrom
import HandS.ExcField
import HandS.NoneIn
import PyProof.EqAt
import PyProof.NeKinds
import HandS.FStr
import KE.KFmtOwn
import PyProof.InstNe
import HandS.Head0
import HandS.Head1
import HandS.Head2
import HandS.HeadHook1
import HandS.HeadHook2
import HandS.Flow
import KE.KExcIs
import KE.SortKeyHeap
import KE.DataMinMax
import KE.SortData
import PySem.Challenge.RW_letterhand_k58_what_comes_again
set_option Elab.async false
set_option linter.all false
set_option maxRecDepth 100000
set_option maxHeartbeats 4000000
/-! Lh: plain data over HandS: tuples are values, lists and instances stand in a small memory. -/
namespace L2.Lh
open PySem PySem.Spec PyProof.Rows

inductive D where
  | non | bl (b : Bool) | int (i : Int) | str (x : Str) | ty (n : String) | ref (a : Addr) | tup (xs : List D) | rol (xs : List D) | ftup (xs : List D)

mutual
inductive Rep (K : PySem.W.Frag) (H : Hp) : D → V → Prop
  | non : Rep K H .non .non
  | bl (b : Bool) : Rep K H (.bl b) (.bl b)
  | int (i : Int) : Rep K H (.int i) (.int i)
  | str (x : Str) : Rep K H (.str x) (.str x)
  | ty (n : String) : Rep K H (.ty n) (.ty n)
  | ref (a : Addr) : Rep K H (.ref a) (.ref a)
  | tup {a : Addr} {vs : List V} {ds : List D} : H a = some (.tup vs) → Reps K H ds vs → Rep K H (.tup ds) (.ref a)
  | rol {a : Addr} {vs : List V} {ds : List D} : ((∃ o, H a = some (.frz o (.lst vs))) ∨ (∃ (o : Obj) (its : Array Value) (n : Nat), K.lookup a = some o ∧ o.cls = .type "list" ∧ o.dict = none ∧ o.data = .seq its n ∧ its.size ≤ sizeLine ∧ Vals vs its.toList)) → Reps K H ds vs → Rep K H (.rol ds) (.ref a)
  | ftup {a : Addr} {o : Obj} {vs : List V} {ds : List D} : H a = some (.frz o (.tup vs)) → o.dict = none → Reps K H ds vs → Rep K H (.ftup ds) (.ref a)
inductive Reps (K : PySem.W.Frag) (H : Hp) : List D → List V → Prop
  | nil : Reps K H [] []
  | cons {d : D} {v : V} {ds : List D} {vs : List V} : Rep K H d v → Reps K H ds vs → Reps K H (d :: ds) (v :: vs)
end

/-- a lambda as it is written -/
structure LamSyn where
  params : Arguments
  body : Expr
  scope : Scope

inductive MO where
  | lst (xs : List D)
  | ins (C : Addr) (fs : List (Str × D))
  | exc (cls : Value)
  | xd (fs : List (Str × D))
  | dK (kvs : List (Key × D))
  | dN (kvs : List (NestedKey × D))
  | dR (kvs : List (NestedKey × D)) (es : Array DictEntry) (ep : Nat) (ds : List D)
  | tbl (q : Str)
  | dF (kvs : List (Key × D))
  | lam (nm : Str) (L : LamSyn) (fr : List Str) (CL : List (Str × Addr))
  | clo (nm : Str) (L : LamSyn) (ds : List (Str × D))
  | own (C : Addr) (f : Str) (d : D)
  | dT (kds : List (D × D))
/-- all but what is frozen may be written -/
def MO.mut : MO → Bool
  | .dF _ => false
  | .lam .. => false
  | .clo .. => false
  | .own .. => false
  | _ => true
abbrev Mem := Addr → Option MO
def Mem.set (m : Mem) (a : Addr) (o : MO) : Mem := fun b => if b = a then some o else m b
theorem Mem.set_same {m : Mem} {a : Addr} {o : MO} : (m.set a o) a = some o := if_pos rfl
theorem Mem.set_ne {m : Mem} {a b : Addr} {o : MO} (h : b ≠ a) : (m.set a o) b = m b := if_neg h
theorem Mem.set_set {m : Mem} {a : Addr} {o u : MO} : (m.set a o).set a u = m.set a u := by
  funext b; unfold Mem.set; split <;> rfl
theorem Mem.set_comm {m : Mem} {a b : Addr} {o u : MO} (h : a ≠ b) : (m.set a o).set b u = (m.set b u).set a o := by
  funext c
  unfold Mem.set
  by_cases h1 : c = a
  · subst h1; rw [if_neg h]; simp
  · by_cases h2 : c = b
    · subst h2; simp [h1]
    · simp [h1, h2]
theorem Mem.set_id {m : Mem} {a : Addr} {o : MO} (h : m a = some o) : m.set a o = m := by
  funext b; unfold Mem.set; split
  · rename_i e; rw [e, h]
  · rfl
theorem Mem.ne_of {m : Mem} {a b : Addr} {o : MO} (h : m a = some o) (h' : m b = none) : b ≠ a := fun e => by
  rw [e, h] at h'; cases h'
theorem Mem.ne_of' {m : Mem} {a b : Addr} {o : MO} (h : m a = some o) (h' : m b = none) : a ≠ b := (Mem.ne_of h h').symm

/-- one memory within another -/
def Mem.le (m m' : Mem) : Prop := ∀ a o, m a = some o → m' a = some o
theorem Mem.le_refl (m : Mem) : m.le m := fun _ _ h => h
theorem Mem.le_set {m : Mem} {a : Addr} {o : MO} (h : m a = none) : m.le (m.set a o) := fun b u e => by
  rw [Mem.set_ne (Mem.ne_of' e h)]; exact e
theorem Mem.le_trans {m m1 m2 : Mem} (a : m.le m1) (b : m1.le m2) : m.le m2 := fun c o h => b c o (a c o h)
theorem Mem.le_set_of {m m' : Mem} {a : Addr} {o : MO} (l : m.le m') (h : m a = none) : m.le (m'.set a o) := fun b u e => by
  rw [Mem.set_ne (Mem.ne_of' e h)]; exact l b u e
theorem Mem.le_none {m m' : Mem} {a : Addr} (l : m.le m') (h : m' a = none) : m a = none := by
  cases e : m a with
  | none => rfl
  | some o => rw [l a o e] at h; cases h
theorem Mem.set_le {m m' : Mem} {a : Addr} {o : MO} (l : m.le m') : (m.set a o).le (m'.set a o) := fun b u e => by
  by_cases h : b = a
  · subst h; rw [Mem.set_same] at e ⊢; exact e
  · rw [Mem.set_ne h] at e ⊢; exact l b u e

/-! ### how the abstract heap moves -/
structure Ext (H H' : Hp) : Prop where
  tup : ∀ b xs, H b = some (.tup xs) → H' b = some (.tup xs)
  frz : ∀ b o u, H b = some (.frz o u) → H' b = some (.frz o u)
  cod : ∀ b q, H b = some (LamX.CodeO b q) → H' b = some (LamX.CodeO b q)
theorem Ext.refl (H : Hp) : Ext H H := ⟨fun _ _ h => h, fun _ _ _ h => h, fun _ _ h => h⟩
theorem Ext.trans {H H1 H2 : Hp} (a : Ext H H1) (b : Ext H1 H2) : Ext H H2 := ⟨fun c xs h => b.tup c xs (a.tup c xs h), fun c o u h => b.frz c o u (a.frz c o u h), fun c q h => b.cod c q (a.cod c q h)⟩
structure Step (H : Hp) (m : Mem) (H' : Hp) (m' : Mem) : Prop where
  ext : Ext H H'
  dom : ∀ b, H' b = none → H b = none
  keep : ∀ b o, m b = none → H b = some o → H' b = some o
  new : ∀ b o, m b = none → H b = some o → m' b = none
theorem Step.refl (H : Hp) (m : Mem) : Step H m H m := ⟨Ext.refl H, fun _ h => h, fun _ _ _ h => h, fun _ _ h _ => h⟩
theorem Step.trans {H H1 H2 : Hp} {m m1 m2 : Mem} (a : Step H m H1 m1) (b : Step H1 m1 H2 m2) : Step H m H2 m2 :=
  ⟨a.ext.trans b.ext, fun c h => a.dom c (b.dom c h),
    fun c o n h => b.keep c o (a.new c o n h) (a.keep c o n h), fun c o n h => b.new c o (a.new c o n h) (a.keep c o n h)⟩
theorem Step.forget {H H' : Hp} {m m' m'' : Mem} (a : Step H m H' m') (l : m''.le m') : Step H m H' m'' :=
  ⟨a.ext, a.dom, a.keep, fun b o n h => Mem.le_none l (a.new b o n h)⟩

mutual
theorem Rep.mono {K : PySem.W.Frag} {H H' : Hp} (t : Ext H H') : ∀ {d : D} {v : V}, Rep K H d v → Rep K H' d v
  | _, _, .non => .non
  | _, _, .bl b => .bl b
  | _, _, .int i => .int i
  | _, _, .str x => .str x
  | _, _, .ty n => .ty n
  | _, _, .ref a => .ref a
  | _, _, .tup h r => .tup (t.tup _ _ h) (Reps.mono t r)
  | _, _, .ftup h n r => .ftup (t.frz _ _ _ h) n (Reps.mono t r)
  | _, _, .rol h r => .rol (by
      rcases h with ⟨o, h⟩ | h
      · exact .inl ⟨o, t.frz _ _ _ h⟩
      · exact .inr h) (Reps.mono t r)
theorem Reps.mono {K : PySem.W.Frag} {H H' : Hp} (t : Ext H H') : ∀ {ds : List D} {vs : List V}, Reps K H ds vs → Reps K H' ds vs
  | _, _, .nil => .nil
  | _, _, .cons h r => .cons (Rep.mono t h) (Reps.mono t r)
end
theorem Reps.length {K : PySem.W.Frag} {H : Hp} : ∀ {ds : List D} {vs : List V}, Reps K H ds vs → ds.length = vs.length
  | _, _, .nil => rfl
  | _, _, .cons _ r => by rw [List.length_cons, List.length_cons, Reps.length r]
theorem Reps.append {K : PySem.W.Frag} {H : Hp} : ∀ {ds es : List D} {vs us : List V}, Reps K H ds vs → Reps K H es us → Reps K H (ds ++ es) (vs ++ us)
  | _, _, _, _, .nil, s => s
  | _, _, _, _, .cons h r, s => .cons h (Reps.append r s)
theorem Reps.get {K : PySem.W.Frag} {H : Hp} : ∀ {ds : List D} {vs : List V} {i : Nat} {d : D}, Reps K H ds vs → ds[i]? = some d → ∃ v, vs[i]? = some v ∧ Rep K H d v
  | _, _, _, _, .nil, e => by simp at e
  | _, _, 0, _, .cons h _, e => by simp at e; subst e; exact ⟨_, rfl, h⟩
  | _, _, i + 1, _, .cons _ r, e => by
    obtain ⟨v, h1, h2⟩ := Reps.get (i := i) r (by simpa using e)
    exact ⟨v, by simpa using h1, h2⟩
theorem Reps.set {K : PySem.W.Frag} {H : Hp} {d : D} {v : V} (h : Rep K H d v) : ∀ {ds : List D} {vs : List V} (i : Nat), Reps K H ds vs → Reps K H (ds.set i d) (vs.set i v)
  | _, _, _, .nil => .nil
  | _, _, 0, .cons _ r => .cons h r
  | _, _, i + 1, .cons q r => .cons q (Reps.set h i r)
theorem Reps.take {K : PySem.W.Frag} {H : Hp} : ∀ {ds : List D} {vs : List V} (n : Nat), Reps K H ds vs → Reps K H (ds.take n) (vs.take n)
  | _, _, 0, _ => .nil
  | _, _, _ + 1, .nil => .nil
  | _, _, n + 1, .cons h r => .cons h (Reps.take n r)
theorem Reps.drop {K : PySem.W.Frag} {H : Hp} : ∀ {ds : List D} {vs : List V} (n : Nat), Reps K H ds vs → Reps K H (ds.drop n) (vs.drop n)
  | _, _, 0, r => r
  | _, _, _ + 1, .nil => .nil
  | _, _, n + 1, .cons _ r => Reps.drop n r
theorem Reps.eraseIdx {K : PySem.W.Frag} {H : Hp} : ∀ {ds : List D} {vs : List V} (n : Nat), Reps K H ds vs → Reps K H (ds.eraseIdx n) (vs.eraseIdx n)
  | _, _, _, .nil => .nil
  | _, _, 0, .cons _ r => r
  | _, _, n + 1, .cons h r => .cons h (Reps.eraseIdx n r)
theorem Reps.dropLast {K : PySem.W.Frag} {H : Hp} {ds : List D} {vs : List V} (h : Reps K H ds vs) : Reps K H ds.dropLast vs.dropLast := by
  rw [List.dropLast_eq_take, List.dropLast_eq_take, ← h.length]; exact h.take _
theorem Reps.reverse {K : PySem.W.Frag} {H : Hp} : ∀ {ds : List D} {vs : List V}, Reps K H ds vs → Reps K H ds.reverse vs.reverse
  | _, _, .nil => .nil
  | _, _, .cons h r => by rw [List.reverse_cons, List.reverse_cons]; exact (Reps.reverse r).append (.cons h .nil)
theorem Reps.rep {K : PySem.W.Frag} {H : Hp} {ds : List D} {vs : List V} (h : Reps K H ds vs) : ∀ k : Nat, Reps K H (List.replicate k ds).flatten (List.replicate k vs).flatten
  | 0 => .nil
  | k + 1 => by
    rw [List.replicate_succ, List.replicate_succ, List.flatten_cons, List.flatten_cons]
    exact h.append (Reps.rep h k)
theorem Reps.ints {K : PySem.W.Frag} {H : Hp} : ∀ (ns : List Int), Reps K H (ns.map D.int) (ns.map V.int)
  | [] => .nil
  | n :: ns => .cons (.int n) (Reps.ints ns)
theorem Reps.ofInts {K : PySem.W.Frag} {H : Hp} : ∀ {ns : List Int} {vs : List V}, Reps K H (ns.map D.int) vs → vs = ns.map V.int
  | [], _, h => by cases h; rfl
  | n :: ns, _, h => by
    rw [List.map_cons] at h
    cases h with
    | cons h r => cases h; rw [List.map_cons, Reps.ofInts r]
theorem Reps.ofBls {K : PySem.W.Frag} {H : Hp} : ∀ {bs : List Bool} {vs : List V}, Reps K H (bs.map D.bl) vs → vs = bs.map V.bl
  | [], _, h => by cases h; rfl
  | n :: ns, _, h => by
    rw [List.map_cons] at h
    cases h with
    | cons h r => cases h; rw [List.map_cons, Reps.ofBls r]
/-- the memory's objects as they stand in the abstract heap -/
def RepF (K : PySem.W.Frag) (H : Hp) : List (Str × D) → List (Str × V) → Prop := Paired fun p q => p.1 = q.1 ∧ Rep K H p.2 q.2
def excIs (a : Addr) (cls : Value) : Heap → Prop := fun h => ∃ oe vs, h.get? a = some oe ∧ oe.cls = cls ∧ oe.dict = none ∧ oe.data = .fields vs
-- a thing as a key
mutual
def keyN : D → Option NestedKey
  | .non => some .none
  | .int i => some (.num i)
  | .tup xs => (keyNs xs).map .tup
  | .ftup xs => (keyNs xs).map .tup
  | _ => none
def keyNs : List D → Option (List NestedKey)
  | [] => some []
  | d :: ds => match keyN d, keyNs ds with
    | some k, some ks => some (k :: ks)
    | _, _ => none
end
def KeyRep (K : PySem.W.Frag) (H : Hp) (k : NestedKey) (a : Addr) : Prop := ∃ d, Rep K H d (.ref a) ∧ keyN d = some k ∧ k.depth ≤ 8
def rawIs (a : Addr) (es : Array DictEntry) (ep : Nat) : Heap → Prop := fun h => ∃ o, h.get? a = some o ∧ o.ExactDict ∧ o.data = .dict es ep
def RepK (K : PySem.W.Frag) (H : Hp) : List (Key × D) → List (Key × V) → Prop := Paired fun p q => p.1 = q.1 ∧ Rep K H p.2 q.2
def RepN (K : PySem.W.Frag) (H : Hp) : List (NestedKey × D) → List (NestedKey × Addr × Value) → Prop := Paired fun p x => p.1 = x.1 ∧ KeyRep K H x.1 x.2.1 ∧ ∃ v, Rep K H p.2 v ∧ RelV v x.2.2
structure RawN (K : PySem.W.Frag) (H : Hp) (a : Addr) (kvs : List (NestedKey × D)) (es : Array DictEntry) (ep : Nat) (xs : List (NestedKey × Addr × Value)) : Prop where
  ent : ∀ (P : Program) (w : World), es.toList = xs.map (entryOfKey (nestedKind P w))
  nd : (xs.map (·.1)).Nodup
  sz : xs.length ≤ sizeLine
  sys : (a == sysModules) = false
  rel : RepN K H kvs xs
/-- the object at f is a lambda's, of these cells -/
def LamAt (H : Hp) (f : Addr) (nm : Str) (L : LamSyn) (cl : List (Str × Addr)) : Prop :=
  ∃ (pm ctv : Value) (c' : Addr), H f = some (.frz (PySem.W.kla_obj "<lambda>" nm L.params L.body L.scope cl pm c' ctv) (.ext fun _ => True)) ∧ H c' = some (LamX.CodeO c' nm)
/-- a cell that is never written again -/
def CelAt (K : PySem.W.Frag) (H : Hp) (c : Addr) (d : D) : Prop := ∃ (o : Obj) (u : Value) (v : V), H c = some (.frz o (.ext fun _ => True)) ∧ o.data = .cell (some u) ∧ RelV v u ∧ Rep K H d v
def CelsAt (K : PySem.W.Frag) (H : Hp) : List (Str × D) → List (Str × Addr) → Prop := Paired fun p q => p.1 = q.1 ∧ CelAt K H q.2 p.2
/-- an own error of class C that is kept: its field f is d -/
def OwnErr (K : PySem.W.Frag) (H : Hp) (a C : Addr) (f : Str) (d : D) : Prop :=
  ∃ (oe od : Obj) (dx : Addr) (y : V), H a = some (.frz oe (exo a C (some dx))) ∧ H dx = some (.frz od (exd dx [(f, y)])) ∧ Rep K H d y
/-- a dict of tuples whose keys are known as they are -/
def kvT (kds : List (D × D)) : List (NestedKey × D) := kds.map fun p => ((keyN p.1).getD .none, p.2)
def RepO (K : PySem.W.Frag) (H : Hp) (a : Addr) : MO → Prop
  | .lst ds => ∃ vs, H a = some (.lst vs) ∧ Reps K H ds vs
  | .ins C fs => ∃ dx fv, H a = some (.ins C dx fv) ∧ RepF K H fs fv
  | .exc cls => H a = some (.ext (excIs a cls))
  | .xd fs => ∃ fv, H a = some (.xd fv) ∧ RepF K H fs fv
  | .dK kvs => ∃ kv, H a = some (.dK kv) ∧ RepK K H kvs kv
  | .dN kvs => ∃ es ep xs, H a = some (.ext (rawIs a es ep)) ∧ RawN K H a kvs es ep xs
  | .dR kvs es ep ds => H a = some (.ext (rawIs a es ep)) ∧ ∃ xs, RawN K H a kvs es ep xs ∧ Reps K H ds (xs.map fun x => V.ref x.2.1)
  | .tbl q => LamX.TabS H a q
  | .dF kvs => ∃ od kv, H a = some (.frz od (.dK kv)) ∧ RepK K H kvs kv
  | .lam nm L fr CL => LamAt H a nm L (L2.cloFrom CL L.scope.names []) ∧ (L2.cloFrom CL L.scope.names []).map (·.1) = fr ∧ ∀ y ∈ L.scope.names, y.2 = .free → ∃ c, CL.lookup y.1 = some c
  | .clo nm L ds => ∃ cl, LamAt H a nm L cl ∧ (∀ x y c, cl.lookup x = some c → cl.lookup y = some c → x = y) ∧ (∀ y ∈ L.scope.names, y.2 = .free → ∃ c, cl.lookup y.1 = some c) ∧ CelsAt K H ds cl
  | .own C f d => OwnErr K H a C f d
  | .dT kds => ∃ es ep xs, H a = some (.ext (rawIs a es ep)) ∧ RawN K H a (kvT kds) es ep xs ∧ Reps K H (kds.map Prod.fst) (xs.map fun x => V.ref x.2.1)
theorem LamAt.mono {H H' : Hp} (t : Ext H H') {f : Addr} {nm : Str} {L : LamSyn} {cl : List (Str × Addr)} (h : LamAt H f nm L cl) : LamAt H' f nm L cl :=
  let ⟨pm, ctv, c', e1, e2⟩ := h; ⟨pm, ctv, c', t.frz _ _ _ e1, t.cod _ _ e2⟩
theorem CelAt.mono {K : PySem.W.Frag} {H H' : Hp} (t : Ext H H') {c : Addr} {d : D} (h : CelAt K H c d) : CelAt K H' c d :=
  let ⟨o, u, v, e1, e2, e3, e4⟩ := h; ⟨o, u, v, t.frz _ _ _ e1, e2, e3, e4.mono t⟩
theorem OwnErr.mono {K : PySem.W.Frag} {H H' : Hp} (t : Ext H H') {a C : Addr} {f : Str} {d : D} (h : OwnErr K H a C f d) : OwnErr K H' a C f d :=
  let ⟨oe, od, dx, y, e1, e2, e3⟩ := h; ⟨oe, od, dx, y, t.frz _ _ _ e1, t.frz _ _ _ e2, e3.mono t⟩
theorem CelsAt.mono {K : PySem.W.Frag} {H H' : Hp} (t : Ext H H') {ds : List (Str × D)} {cl : List (Str × Addr)} (h : CelsAt K H ds cl) : CelsAt K H' ds cl :=
  Paired.mapP h fun _ _ q => ⟨q.1, q.2.mono t⟩
theorem RepF.mono {K : PySem.W.Frag} {H H' : Hp} (t : Ext H H') {fs : List (Str × D)} {fv : List (Str × V)} (h : RepF K H fs fv) : RepF K H' fs fv :=
  Paired.mapP h fun _ _ q => ⟨q.1, q.2.mono t⟩
theorem KeyRep.mono {K : PySem.W.Frag} {H H' : Hp} (t : Ext H H') {k : NestedKey} {a : Addr} (h : KeyRep K H k a) : KeyRep K H' k a :=
  let ⟨d, r, e, z⟩ := h; ⟨d, r.mono t, e, z⟩
theorem RepK.mono {K : PySem.W.Frag} {H H' : Hp} (t : Ext H H') {fs : List (Key × D)} {fv : List (Key × V)} (h : RepK K H fs fv) : RepK K H' fs fv :=
  Paired.mapP h fun _ _ q => ⟨q.1, q.2.mono t⟩
theorem RepN.mono {K : PySem.W.Frag} {H H' : Hp} (t : Ext H H') {fs : List (NestedKey × D)} {fv : List (NestedKey × Addr × Value)} (h : RepN K H fs fv) : RepN K H' fs fv :=
  Paired.mapP h fun _ _ ⟨e, k, v, r, rv⟩ => ⟨e, k.mono t, v, r.mono t, rv⟩
theorem RawN.mono {K : PySem.W.Frag} {H H' : Hp} (t : Ext H H') {a : Addr} {kvs : List (NestedKey × D)} {es : Array DictEntry} {ep : Nat} {xs : List (NestedKey × Addr × Value)} (h : RawN K H a kvs es ep xs) : RawN K H' a kvs es ep xs :=
  ⟨h.ent, h.nd, h.sz, h.sys, h.rel.mono t⟩
def Sim (K : PySem.W.Frag) (H : Hp) (m : Mem) : Prop := ∀ a o, m a = some o → RepO K H a o
theorem Sim.forget {K : PySem.W.Frag} {H : Hp} {m m' : Mem} (s : Sim K H m') (l : m.le m') : Sim K H m := fun a o e => s a o (l a o e)
/-- what an object's place leans on -/
theorem RepO.mono {K : PySem.W.Frag} {H H' : Hp} {a : Addr} {o : MO} (t : Ext H H') (h : ∀ u, H a = some u → H' a = some u) (r : RepO K H a o) : RepO K H' a o := by
  cases o with
  | lst ds => obtain ⟨vs, e, q⟩ := r; exact ⟨vs, h _ e, q.mono t⟩
  | ins C fs => obtain ⟨dx, fv, e, q⟩ := r; exact ⟨dx, fv, h _ e, q.mono t⟩
  | exc cls => exact h _ r
  | xd fs => obtain ⟨fv, e, q⟩ := r; exact ⟨fv, h _ e, q.mono t⟩
  | dK kvs => obtain ⟨kv, e, q⟩ := r; exact ⟨kv, h _ e, q.mono t⟩
  | dN kvs => obtain ⟨es, ep, xs, e, q⟩ := r; exact ⟨es, ep, xs, h _ e, q.mono t⟩
  | dR kvs es ep ds => obtain ⟨e, xs, q, r⟩ := r; exact ⟨h _ e, xs, q.mono t, r.mono t⟩
  | tbl q =>
    obtain ⟨ps, h1, h2, h3⟩ := r
    exact ⟨ps, h _ h1, h2, fun pos cv hc => let ⟨c, e1, e2⟩ := h3 pos cv hc; ⟨c, e1, t.cod c q e2⟩⟩
  | dF kvs => obtain ⟨od, kv, e, q⟩ := r; exact ⟨od, kv, h _ e, q.mono t⟩
  | lam nm L fr CL => exact ⟨LamAt.mono t r.1, r.2⟩
  | clo nm L ds => obtain ⟨cl, e, i, f, q⟩ := r; exact ⟨cl, e.mono t, i, f, q.mono t⟩
  | own C f d => exact OwnErr.mono t r
  | dT kds => obtain ⟨es, ep, xs, e, q, r⟩ := r; exact ⟨es, ep, xs, h _ e, q.mono t, r.mono t⟩
theorem raw_ne {a c : Addr} {es : Array DictEntry} {ep : Nat} {q : Str} : HO.ext (rawIs a es ep) ≠ LamX.CodeO c q := fun z => by
  have z' : rawIs a es ep = _ := HO.ext.inj z
  have e := congrFun z' ({ objs := Array.replicate (max a c + 1) { cls := .none, data := .fields #[.none, .str q 0] } } : Heap)
  have hg : ∀ b, b ≤ max a c → Heap.get? ({ objs := Array.replicate (max a c + 1) { cls := .none, data := .fields #[.none, .str q 0] } } : Heap) b = some { cls := .none, data := .fields #[.none, .str q 0] } := fun b hb => by
    unfold Heap.get?
    simp [Array.getElem?_replicate, Nat.lt_succ_of_le hb]
  have h2 := e.mpr ⟨_, _, 0, hg c (Nat.le_max_right _ _), rfl, rfl⟩
  obtain ⟨o, h3, h4, h5⟩ := h2
  rw [hg a (Nat.le_max_left _ _)] at h3
  cases h3
  cases h5
theorem exc_ne {a c : Addr} {cls : Value} {q : Str} : HO.ext (excIs a cls) ≠ LamX.CodeO c q := fun z => by
  have z' : excIs a cls = _ := HO.ext.inj z
  have e := congrFun z' ({ objs := Array.replicate (max a c + 1) { cls := cls, data := .fields #[] } } : Heap)
  have hg : ∀ b, b ≤ max a c → Heap.get? ({ objs := Array.replicate (max a c + 1) { cls := cls, data := .fields #[] } } : Heap) b = some { cls := cls, data := .fields #[] } := fun b hb => by
    unfold Heap.get?
    simp [Array.getElem?_replicate, Nat.lt_succ_of_le hb]
  have h2 := e.mp ⟨_, _, hg a (Nat.le_max_left _ _), rfl, rfl, rfl⟩
  obtain ⟨o, vs, t, h3, h4, h5⟩ := h2
  rw [hg c (Nat.le_max_right _ _)] at h3
  cases h3
  cases h4
  simp at h5
theorem RepO.any {K : PySem.W.Frag} {H : Hp} {a : Addr} {o : MO} (r : RepO K H a o) : ∃ u, H a = some u := by
  cases o with
  | lst ds => obtain ⟨vs, e, _⟩ := r; exact ⟨_, e⟩
  | ins C fs => obtain ⟨dx, fv, e, _⟩ := r; exact ⟨_, e⟩
  | exc cls => exact ⟨_, r⟩
  | xd fs => obtain ⟨fv, e, _⟩ := r; exact ⟨_, e⟩
  | dK kvs => obtain ⟨kv, e, _⟩ := r; exact ⟨_, e⟩
  | dN kvs => obtain ⟨es, ep, xs, e, _⟩ := r; exact ⟨_, e⟩
  | dR kvs es ep ds => obtain ⟨e, _⟩ := r; exact ⟨_, e⟩
  | tbl q => obtain ⟨ps, e, _⟩ := r; exact ⟨_, e⟩
  | dF kvs => obtain ⟨od, kv, e, _⟩ := r; exact ⟨_, e⟩
  | lam nm L fr CL => obtain ⟨⟨_, _, _, e, _⟩, _⟩ := r; exact ⟨_, e⟩
  | clo nm L ds => obtain ⟨cl, ⟨_, _, _, e, _⟩, _⟩ := r; exact ⟨_, e⟩
  | own C f d => obtain ⟨_, _, _, _, e, _⟩ := r; exact ⟨_, e⟩
  | dT kds => obtain ⟨es, ep, xs, e, _⟩ := r; exact ⟨_, e⟩
theorem RepO.there {K : PySem.W.Frag} {H : Hp} {a : Addr} {o : MO} (r : RepO K H a o) (hw : o.mut = true := by rfl) : ∃ u, H a = some u ∧ (∀ xs, u ≠ .tup xs) ∧ (∀ ob x, u ≠ .frz ob x) ∧ ∀ b q, u ≠ LamX.CodeO b q := by
  cases o with
  | dF kvs => cases hw
  | lam nm L fr CL => cases hw
  | clo nm L ds => cases hw
  | own C f d => cases hw
  | lst ds => obtain ⟨vs, e, _⟩ := r; exact ⟨_, e, (fun _ z => nomatch z), (fun _ _ z => nomatch z), fun _ _ z => by unfold LamX.CodeO at z; cases z⟩
  | ins C fs => obtain ⟨dx, fv, e, _⟩ := r; exact ⟨_, e, (fun _ z => nomatch z), (fun _ _ z => nomatch z), fun _ _ z => by unfold LamX.CodeO at z; cases z⟩
  | exc cls => exact ⟨_, r, (fun _ z => nomatch z), (fun _ _ z => nomatch z), fun _ _ => exc_ne⟩
  | xd fs => obtain ⟨fv, e, _⟩ := r; exact ⟨_, e, (fun _ z => nomatch z), (fun _ _ z => nomatch z), fun _ _ z => by unfold LamX.CodeO at z; cases z⟩
  | dK kvs => obtain ⟨kv, e, _⟩ := r; exact ⟨_, e, (fun _ z => nomatch z), (fun _ _ z => nomatch z), fun _ _ z => by unfold LamX.CodeO at z; cases z⟩
  | dN kvs => obtain ⟨es, ep, xs, e, _⟩ := r; exact ⟨_, e, (fun _ z => nomatch z), (fun _ _ z => nomatch z), fun _ _ => raw_ne⟩
  | dR kvs es ep ds => obtain ⟨e, _⟩ := r; exact ⟨_, e, (fun _ z => nomatch z), (fun _ _ z => nomatch z), fun _ _ => raw_ne⟩
  | dT kds => obtain ⟨es, ep, xs, e, _⟩ := r; exact ⟨_, e, (fun _ z => nomatch z), (fun _ _ z => nomatch z), fun _ _ => raw_ne⟩
  | tbl q => obtain ⟨ps, e, _⟩ := r; exact ⟨_, e, (fun _ z => nomatch z), (fun _ _ z => nomatch z), fun _ _ z => by unfold LamX.CodeO at z; cases z⟩
theorem Sim.free {K : PySem.W.Frag} {H : Hp} {m : Mem} {a : Addr} (s : Sim K H m) (h : H a = none) : m a = none := by
  cases e : m a with
  | none => rfl
  | some o => obtain ⟨u, q⟩ := (s a o e).any; rw [h] at q; cases q

/-! ### the moves -/
/-- a new object that is not remembered -/
theorem upd_new {H : Hp} {p : Addr} {o : HO} (n : H p = none) : Ext H (upd H p o) := ⟨fun b xs h => by
  rw [upd_ne (ne_of_none h n)]; exact h, fun b ob u h => by rw [upd_ne (ne_of_none h n)]; exact h, fun b q h => by rw [upd_ne (ne_of_none h n)]; exact h⟩
theorem Step.alloc {H : Hp} {m : Mem} {p : Addr} {o : HO} (n : H p = none) : Step H m (upd H p o) m :=
  ⟨upd_new n, fun b h => by
    by_cases e : b = p
    · subst e; exact n
    · rw [upd_ne e] at h; exact h, fun b ob _ h => by rw [upd_ne (ne_of_none h n)]; exact h, fun b ob h _ => h⟩
theorem Sim.alloc {K : PySem.W.Frag} {H : Hp} {m : Mem} {p : Addr} {o : HO} (s : Sim K H m) (n : H p = none) : Sim K (upd H p o) m := fun a u e =>
  (s a u e).mono (upd_new n) fun w h => by rw [upd_ne (ne_of_none h n)]; exact h
/-- .. remembered -/
theorem Step.allocM {H : Hp} {m : Mem} {p : Addr} {o : HO} {u : MO} (n : H p = none) : Step H m (upd H p o) (m.set p u) :=
  let s := Step.alloc (m := m) (o := o) n
  ⟨s.ext, s.dom, s.keep, fun b ob h e => by rw [Mem.set_ne (ne_of_none e n)]; exact h⟩
theorem Sim.allocM {K : PySem.W.Frag} {H : Hp} {m : Mem} {p : Addr} {o : HO} {u : MO} (s : Sim K H m) (n : H p = none) (r : RepO K (upd H p o) p u) : Sim K (upd H p o) (m.set p u) := fun a w e => by
  by_cases h : a = p
  · subst h; rw [Mem.set_same] at e; cases e; exact r
  · rw [Mem.set_ne h] at e; exact (s.alloc n) a w e
/-- a remembered object is written -/
theorem upd_old {K : PySem.W.Frag} {H : Hp} {m : Mem} {p : Addr} {o : HO} {w : MO} (s : Sim K H m) (e : m p = some w) (hw : w.mut = true := by rfl) : Ext H (upd H p o) := by
  obtain ⟨u, q, h1, h2, h3⟩ := (s p w e).there hw
  exact ⟨fun b xs h => by rw [upd_ne (fun z => by subst z; rw [q] at h; cases h; exact h1 xs rfl)]; exact h,
    fun b ob x h => by rw [upd_ne (fun z => by subst z; rw [q] at h; cases h; exact h2 ob x rfl)]; exact h,
    fun b k h => by rw [upd_ne (fun z => by subst z; rw [q] at h; exact h3 b k (Option.some.inj h))]; exact h⟩
theorem Step.write {K : PySem.W.Frag} {H : Hp} {m : Mem} {p : Addr} {o : HO} {u w : MO} (s : Sim K H m) (e : m p = some w) (hw : w.mut = true := by rfl) : Step H m (upd H p o) (m.set p u) :=
  ⟨upd_old s e hw, fun b h => by
    by_cases z : b = p
    · subst z; rw [upd_same] at h; cases h
    · rw [upd_ne z] at h; exact h,
    fun b ob n h => by rw [upd_ne (fun z => by subst z; rw [e] at n; cases n)]; exact h,
    fun b ob n h => by rw [Mem.set_ne (fun z => by subst z; rw [e] at n; cases n)]; exact n⟩
theorem Sim.write {K : PySem.W.Frag} {H : Hp} {m : Mem} {p : Addr} {o : HO} {u w : MO} (s : Sim K H m) (e : m p = some w) (r : RepO K (upd H p o) p u) (hw : w.mut = true := by rfl) : Sim K (upd H p o) (m.set p u) := fun a x q => by
  by_cases h : a = p
  · subst h; rw [Mem.set_same] at q; cases q; exact r
  · rw [Mem.set_ne h] at q
    exact (s a x q).mono (upd_old s e hw) fun y z => by rw [upd_ne h]; exact z

/-! ### slots -/
abbrev DEnv := List (Option D)
def RelO2 (K : PySem.W.Frag) (H : Hp) : Option D → Option V → Prop
  | some d, some v => Rep K H d v
  | none, _ => True
  | some _, none => False
abbrev RepEnv (K : PySem.W.Frag) (H : Hp) : DEnv → St → Prop := Paired (RelO2 K H)
theorem RelO2.mono {K : PySem.W.Frag} {H H' : Hp} (t : Ext H H') : ∀ {d : Option D} {v : Option V}, RelO2 K H d v → RelO2 K H' d v
  | some _, some _, h => Rep.mono t h
  | none, _, _ => trivial
  | some _, none, h => h
theorem RepEnv.mono {K : PySem.W.Frag} {H H' : Hp} (t : Ext H H') {ρ : DEnv} {σ : St} (h : RepEnv K H ρ σ) : RepEnv K H' ρ σ := Paired.mapP h fun _ _ q => RelO2.mono t q
theorem RepEnv.get {K : PySem.W.Frag} {H : Hp} : ∀ {ρ : DEnv} {σ : St} {i : Nat} {d : D}, RepEnv K H ρ σ → ρ[i]? = some (some d) → ∃ v, σ[i]? = some (some v) ∧ Rep K H d v
  | _, _, _, _, .nil, e => by simp at e
  | _, _, 0, _, .cons (b := some v) h _, e => by simp at e; subst e; exact ⟨v, rfl, h⟩
  | _, _, 0, _, .cons (b := none) h _, e => by simp at e; subst e; exact h.elim
  | _, _, i + 1, _, .cons _ r, e => by
    obtain ⟨v, h1, h2⟩ := RepEnv.get (i := i) r (by simpa using e)
    exact ⟨v, by simpa using h1, h2⟩
theorem RepEnv.set {K : PySem.W.Frag} {H : Hp} {d : D} {v : V} (h : Rep K H d v) : ∀ {ρ : DEnv} {σ : St} (i : Nat), RepEnv K H ρ σ → RepEnv K H (ρ.set i (some d)) (σ.set i (some v))
  | _, _, _, .nil => .nil
  | _, _, 0, .cons _ r => .cons h r
  | _, _, i + 1, .cons q r => .cons q (RepEnv.set h i r)
theorem RepEnv.setNone {K : PySem.W.Frag} {H : Hp} {v : Option V} : ∀ {ρ : DEnv} {σ : St} (i : Nat), RepEnv K H ρ σ → RepEnv K H (ρ.set i none) (σ.set i v)
  | _, _, _, .nil => .nil
  | _, _, 0, .cons _ r => .cons trivial r
  | _, _, i + 1, .cons q r => .cons q (RepEnv.setNone i r)
def wipeD (ρ : DEnv) : List Nat → DEnv
  | [] => ρ
  | v :: vs => (wipeD ρ vs).set v none
theorem RepEnv.wipe {K : PySem.W.Frag} {H : Hp} {ρ : DEnv} {σ : St} (h : RepEnv K H ρ σ) : ∀ vs : List Nat, RepEnv K H (wipeD ρ vs) (L2.wipe σ vs)
  | [] => h
  | v :: vs => (RepEnv.wipe h vs).setNone v
end L2.Lh

namespace L2.Lh
open PySem PySem.Spec PyProof.Rows

abbrev DQ := D → Mem → Prop
abbrev DTE := DEnv → Mem → DQ → Prop
abbrev DTT := DEnv → Mem → (Bool → Mem → Prop) → Prop
abbrev DTA := DEnv → Mem → (List D → Mem → Prop) → Prop
structure DEnds where
  nx : DEnv → Mem → Prop
  rt : DQ
  bk : DEnv → Mem → Prop := fun _ _ => False
  ct : DEnv → Mem → Prop := fun _ _ => False
abbrev DTS := DEnds → DEnv → Mem → Prop
abbrev DTG := D → DEnv → Mem → (DEnv → Mem → Prop) → Prop

structure Bs where
  H : Hp
  m : Mem
structure Pre (K : PySem.W.Frag) (B : Bs) (ρ : DEnv) (m : Mem) (σ : St) (H : Hp) : Prop where
  env : RepEnv K H ρ σ
  sim : Sim K H m
  st : Step B.H B.m H m
theorem Pre.next {K : PySem.W.Frag} {B : Bs} {ρ : DEnv} {m m' : Mem} {σ : St} {H H' : Hp} (p : Pre K B ρ m σ H) (s : Sim K H' m') (t : Step H m H' m') : Pre K B ρ m' σ H' := ⟨p.env.mono t.ext, s, p.st.trans t⟩

def PostE (K : PySem.W.Frag) (H : Hp) (m : Mem) (q : DQ) (Q : VK) : Prop := ∀ d m' v H', q d m' → Rep K H' d v → Sim K H' m' → Step H m H' m' → Q v H'
def upE (K : PySem.W.Frag) (B : Bs) (t : DTE) : TE := fun σ H Q => ∃ ρ m q, Pre K B ρ m σ H ∧ t ρ m q ∧ PostE K H m q Q
def upT (K : PySem.W.Frag) (B : Bs) (t : DTT) : TT := fun σ H Q => ∃ ρ m q, Pre K B ρ m σ H ∧ t ρ m q ∧ ∀ b m' H', q b m' → Sim K H' m' → Step H m H' m' → Q b H'
def upA (K : PySem.W.Frag) (B : Bs) (t : DTA) : TA := fun σ H Q => ∃ ρ m q, Pre K B ρ m σ H ∧ t ρ m q ∧ ∀ ds m' vs H', q ds m' → Reps K H' ds vs → Sim K H' m' → Step H m H' m' → Q vs H'
/-- a new list, not remembered -/
abbrev DTL := DTA
def upL (K : PySem.W.Frag) (B : Bs) (t : DTL) : TE := fun σ H Q => ∃ ρ m q, Pre K B ρ m σ H ∧ t ρ m q ∧
  ∀ ds m' a vs H', q ds m' → H' a = some (.lst vs) → Reps K H' ds vs → m' a = none → H a = none → Sim K H' m' → Step H m H' m' → Q (.ref a) H'
structure EndsOk (K : PySem.W.Frag) (H : Hp) (m : Mem) (E : DEnds) (F : Ends) : Prop where
  nx : ∀ ρ' m' σ' H', E.nx ρ' m' → RepEnv K H' ρ' σ' → Sim K H' m' → Step H m H' m' → F.nx σ' H'
  rt : ∀ d m' v H', E.rt d m' → Rep K H' d v → Sim K H' m' → Step H m H' m' → F.rt v H'
  bk : ∀ ρ' m' σ' H', E.bk ρ' m' → RepEnv K H' ρ' σ' → Sim K H' m' → Step H m H' m' → F.bk σ' H'
  ct : ∀ ρ' m' σ' H', E.ct ρ' m' → RepEnv K H' ρ' σ' → Sim K H' m' → Step H m H' m' → F.ct σ' H'
theorem EndsOk.next {K : PySem.W.Frag} {H H1 : Hp} {m m1 : Mem} {E : DEnds} {F : Ends} (o : EndsOk K H m E F) (t : Step H m H1 m1) : EndsOk K H1 m1 E F :=
  ⟨fun a b c d h1 h2 h3 h4 => o.nx a b c d h1 h2 h3 (t.trans h4), fun a b c d h1 h2 h3 h4 => o.rt a b c d h1 h2 h3 (t.trans h4),
    fun a b c d h1 h2 h3 h4 => o.bk a b c d h1 h2 h3 (t.trans h4), fun a b c d h1 h2 h3 h4 => o.ct a b c d h1 h2 h3 (t.trans h4)⟩
def upS (K : PySem.W.Frag) (B : Bs) (t : DTS) : TS := fun F σ H => ∃ ρ m E, Pre K B ρ m σ H ∧ t E ρ m ∧ EndsOk K H m E F
/-- a target: vs are the slots that it may change -/
def upG (K : PySem.W.Frag) (B : Bs) (vs : List Nat) (t : DTG) : TG := fun v σ H Q => ∃ d ρ m q, Rep K H d v ∧ Pre K B ρ m σ H ∧ t d ρ m q ∧
  ∀ ρ' m' σ' H', q ρ' m' → RepEnv K H' ρ' σ' → L2.wipe σ' vs = L2.wipe σ vs → Sim K H' m' → Step H m H' m' → Q σ' H'

abbrev DE (B : Bs) (X : Cx) (e : Expr) (t : DTE) : Prop := PE X e (upE X.K B t)
abbrev DT (B : Bs) (X : Cx) (e : Expr) (t : DTT) : Prop := PT X e (upT X.K B t)
abbrev DW (B : Bs) (X : Cx) (e : Expr) (t : DTT) : Prop := PW X e (upT X.K B t)
abbrev DA (B : Bs) (X : Cx) (es : List Expr) (t : DTA) : Prop := PA X es (upA X.K B t)
abbrev DL (B : Bs) (X : Cx) (e : Expr) (t : DTL) : Prop := PE X e (upL X.K B t)
abbrev DS (B : Bs) (X : Cx) (s : Stmt) (t : DTS) : Prop := PS X s (upS X.K B t)
abbrev DSs (B : Bs) (X : Cx) (s : List Stmt) (t : DTS) : Prop := PSs X s (upS X.K B t)
abbrev DG (B : Bs) (X : Cx) (vs : List Nat) (e : Expr) (t : DTG) : Prop := PG X e (upG X.K B vs t)

section
variable {X : Cx}
theorem pe_imp {e : Expr} {t t' : TE} (h : PE X e t) (i : ∀ σ H Q, t' σ H Q → t σ H Q) : PE X e t' := ⟨fun pins s σ H Q I w => h.run pins s σ H Q I (i σ H Q w)⟩
theorem pt_imp {e : Expr} {t t' : TT} (h : PT X e t) (i : ∀ σ H Q, t' σ H Q → t σ H Q) : PT X e t' := ⟨fun pins s σ H Q I w => h.run pins s σ H Q I (i σ H Q w)⟩
theorem pw_imp {e : Expr} {t t' : TT} (h : PW X e t) (i : ∀ σ H Q, t' σ H Q → t σ H Q) : PW X e t' := ⟨fun wh pins s σ H Q I w => h.run wh pins s σ H Q I (i σ H Q w)⟩
theorem pa_imp {e : List Expr} {t t' : TA} (h : PA X e t) (i : ∀ σ H Q, t' σ H Q → t σ H Q) : PA X e t' := ⟨fun p pins s σ H Q I w => h.run p pins s σ H Q I (i σ H Q w)⟩
theorem ps_imp {e : Stmt} {t t' : TS} (h : PS X e t) (i : ∀ F σ H, t' F σ H → t F σ H) : PS X e t' := ⟨fun pins s σ H F I w => h.run pins s σ H F I (i F σ H w)⟩
theorem pss_imp {e : List Stmt} {t t' : TS} (h : PSs X e t) (i : ∀ F σ H, t' F σ H → t F σ H) : PSs X e t' := ⟨fun pins s σ H F I w => h.run pins s σ H F I (i F σ H w)⟩
theorem pg_imp {e : Expr} {t t' : TG} (h : PG X e t) (i : ∀ v σ H Q, t' v σ H Q → t v σ H Q) : PG X e t' := ⟨fun pins s σ H v u Q I r w => h.run pins s σ H v u Q I r (i v σ H Q w)⟩
end

/-! ### names, constants -/
def dVar (i : Nat) : DTE := fun ρ m q => match ρ[i]? with | some (some d) => q d m | _ => False
def dC (d : D) : DTE := fun _ m q => q d m
section
variable {X : Cx} {B : Bs}
theorem de_var (i : Nat) {x : Str} {pos : Pos} (hN : X.N[i]? = some x := by rfl) (hv : Vis X.env.scope x := by first | exact Or.inl rfl | exact Or.inr (Or.inl rfl) | exact Or.inr (Or.inr rfl)) (hd : (x == ("__debug__" : Str)) = false := by decide)
    (hcd : (x == ("__classdict__" : Str)) = false := by decide) : DE B X (.Name x pos) (dVar i) :=
  pe_imp (pe_var hN hv hd hcd) fun σ H Q ⟨ρ, m, q, p, h, post⟩ => by
    unfold dVar at h
    split at h
    · rename_i d e
      obtain ⟨v, e1, r⟩ := p.env.get e
      exact ⟨v, e1, post d m v H h r p.sim (Step.refl _ _)⟩
    · exact h.elim
theorem de_const {e : Expr} {d : D} {v : V} (h : PE X e (tC v)) (r : ∀ H, Rep X.K H d v) : DE B X e (dC d) :=
  pe_imp h fun σ H Q ⟨ρ, m, q, p, h, post⟩ => post d m v H h (r H) p.sim (Step.refl _ _)
theorem de_int {i j pos} : DE B X (.Constant (.int i) j pos) (dC (.int i)) := de_const pe_int fun _ => .int i
theorem de_bl {i j pos} : DE B X (.Constant (.bool i) j pos) (dC (.bl i)) := de_const pe_bl fun _ => .bl i
theorem de_gint {x : Str} {i : Int} {t : Tok} {pos : Pos} (hg : Gl X x) (hm : X.mg x = some (.int i t)) (hd : (x == ("__debug__" : Str)) = false := by decide) : DE B X (.Name x pos) (dC (.int i)) := de_const (pe_glob (v := .int i) hg hm ⟨t, rfl⟩ hd) fun _ => .int i
theorem de_ty {x : Str} {n : String} {pos : Pos} (hg : Gl X x) (hm : X.mg x = none) (hv : bootBuiltins x = some (.type n)) (hn : x ≠ "__name__" := by decide) (hd : (x == ("__debug__" : Str)) = false := by decide) : DE B X (.Name x pos) (dC (.ty n)) :=
  de_const (pe_bltn (v := .ty n) hg hm hv rfl hn hd) fun _ => .ty n
/-- a remembered list of a new one -/
theorem de_dl {e : Expr} {t : DTL} (h : DL B X e t) : DE B X e (fun ρ m q => t ρ m fun ds m' => ∀ a, m' a = none → q (.ref a) (m'.set a (.lst ds))) :=
  pe_imp h fun σ H Q ⟨ρ, m, q, p, h, post⟩ => ⟨ρ, m, _, p, h, fun ds m' a vs H' hq ha hr hn h0 hs st =>
    post (.ref a) (m'.set a (.lst ds)) (.ref a) H' (hq a hn) (.ref a) (fun b o e => by
      by_cases z : b = a
      · subst z; rw [Mem.set_same] at e; cases e; exact ⟨vs, ha, hr⟩
      · rw [Mem.set_ne z] at e; exact hs b o e)
    ⟨st.ext, st.dom, st.keep, fun b o n e => by rw [Mem.set_ne (fun z => by rw [z, h0] at e; cases e)]; exact st.new b o n e⟩⟩
end

/-! ### operations by values -/
abbrev DR2 := D → D → Mem → DQ → Prop
abbrev DR1 := D → Mem → DQ → Prop
abbrev DRC := List D → Mem → DQ → Prop
def up2 (K : PySem.W.Frag) (r : DR2) : R2 := fun x y H Q => ∃ dx dy m q, Rep K H dx x ∧ Rep K H dy y ∧ Sim K H m ∧ r dx dy m q ∧ PostE K H m q Q
def upC (K : PySem.W.Frag) (r : DRC) : List V → Hp → VK → Prop := fun xs H Q => ∃ ds m q, Reps K H ds xs ∧ Sim K H m ∧ r ds m q ∧ PostE K H m q Q
abbrev OpD (X : Cx) (f : Value → Value → Sem Value) (r : DR2) : Prop := OpR X f (up2 X.K r)
abbrev CallD (X : Cx) (f : Value) (r : DRC) : Prop := CallR X f (upC X.K r)
def dOp (r : DR2) (ta tb : DTE) : DTE := fun ρ m q => ta ρ m fun x m1 => tb ρ m1 fun y m2 => r x y m2 q
def dUn (r : DR1) (ta : DTE) : DTE := fun ρ m q => ta ρ m fun x m1 => r x m1 q
def dTest (t : DTE) : DTT := fun ρ m q => t ρ m fun d m' => match d with | .bl b => q b m' | _ => False
section
variable {X : Cx} {B : Bs} {a b c : Expr} {ta tb tc : DTE} {pos : Pos}
theorem op_lift {r : DR2} {K : PySem.W.Frag} : ∀ σ H Q, upE K B (dOp r ta tb) σ H Q → tOp (up2 K r) (upE K B ta) (upE K B tb) σ H Q :=
  fun σ H Q ⟨ρ, m, q, p, h, post⟩ => ⟨ρ, m, _, p, h, fun d m1 v H1 h1 r1 s1 t1 => ⟨ρ, m1, _, p.next s1 t1, h1, fun d2 m2 v2 H2 h2 r2 s2 t2 =>
    ⟨d, d2, m2, q, r1.mono t2.ext, r2, s2, h2, fun d3 m3 v3 H3 h3 r3 s3 t3 => post d3 m3 v3 H3 h3 r3 s3 (t1.trans (t2.trans t3))⟩⟩⟩
theorem de_op {op : Operator} {r : DR2} (ho : OpD X (binaryOp op) r) (ha : DE B X a ta) (hb : DE B X b tb) : DE B X (.BinOp a op b pos) (dOp r ta tb) := pe_imp (pe_op ho ha hb) op_lift
theorem de_cmp {op : CmpOp} {r : DR2} (ho : OpD X (compareOp op) r) (ha : DE B X a ta) (hb : DE B X b tb) (hm : behindInMarks op b = false) : DE B X (.Compare a [op] [b] pos) (dOp r ta tb) := pe_imp (pe_cmpR ho ha hb hm) op_lift
theorem test_lift {t : DTE} {t' : TE} {K : PySem.W.Frag} (hl : ∀ σ H Q, upE K B t σ H Q → t' σ H Q) : ∀ σ H Q, upT K B (dTest t) σ H Q → tTest t' σ H Q :=
  fun σ H Q ⟨ρ, m, q, p, h, post⟩ => hl σ H _ ⟨ρ, m, _, p, h, fun d m1 v H1 h1 r1 s1 t1 => by
    cases d with
    | bl b => cases r1; exact ⟨b, rfl, post b m1 H1 h1 s1 t1⟩
    | _ => exact (show False from h1).elim⟩
theorem dt_cmp {op : CmpOp} {r : DR2} (ho : OpD X (compareOp op) r) (ha : DE B X a ta) (hb : DE B X b tb) (hm : behindInMarks op b = false) : DT B X (.Compare a [op] [b] pos) (dTest (dOp r ta tb)) :=
  pt_imp (pt_cmpR ho ha hb hm) (test_lift op_lift)
def dChain (r r' : DR2) (ta tb tc : DTE) : DTE := fun ρ m q => ta ρ m fun x m1 => tb ρ m1 fun y m2 => r x y m2 fun z m3 => match z with
  | .bl k => if k = true then tc ρ m3 fun w m4 => r' y w m4 q else q (.bl false) m3
  | _ => False
theorem chain_lift {r r' : DR2} {K : PySem.W.Frag} : ∀ σ H Q, upE K B (dChain r r' ta tb tc) σ H Q → tChain (up2 K r) (up2 K r') (upE K B ta) (upE K B tb) (upE K B tc) σ H Q :=
  fun σ H Q ⟨ρ, m, q, p, h, post⟩ => ⟨ρ, m, _, p, h, fun d m1 v H1 h1 r1 s1 t1 => ⟨ρ, m1, _, p.next s1 t1, h1, fun d2 m2 v2 H2 h2 r2 s2 t2 =>
    ⟨d, d2, m2, _, r1.mono t2.ext, r2, s2, h2, fun z m3 v3 H3 h3 r3 s3 t3 => by
      cases z with
      | bl k =>
        cases r3
        refine ⟨k, rfl, ?_⟩
        cases k with
        | false => exact post (.bl false) m3 (.bl false) H3 h3 (.bl false) s3 (t1.trans (t2.trans t3))
        | true => exact ⟨ρ, m3, _, (p.next s1 t1).next s2 t2 |>.next s3 t3, h3, fun d4 m4 v4 H4 h4 r4 s4 t4 =>
            ⟨d2, d4, m4, q, (r2.mono t3.ext).mono t4.ext, r4, s4, h4, fun d5 m5 v5 H5 h5 r5 s5 t5 => post d5 m5 v5 H5 h5 r5 s5 (t1.trans (t2.trans (t3.trans (t4.trans t5))))⟩⟩
      | _ => exact (show False from h3).elim⟩⟩⟩
theorem de_chain {op op' : CmpOp} {r r' : DR2} (ho : OpD X (compareOp op) r) (ho' : OpD X (compareOp op') r') (ha : DE B X a ta) (hb : DE B X b tb) (hc : DE B X c tc)
    (hm : lastMarks [op, op'] [b, c] = false := by with_unfolding_all rfl) : DE B X (.Compare a [op, op'] [b, c] pos) (dChain r r' ta tb tc) := pe_imp (pe_chain ho ho' ha hb hc hm) chain_lift
theorem dt_chain {op op' : CmpOp} {r r' : DR2} (ho : OpD X (compareOp op) r) (ho' : OpD X (compareOp op') r') (ha : DE B X a ta) (hb : DE B X b tb) (hc : DE B X c tc)
    (hm : lastMarks [op, op'] [b, c] = false := by with_unfolding_all rfl) : DT B X (.Compare a [op, op'] [b, c] pos) (dTest (dChain r r' ta tb tc)) := pt_imp (pt_chain ho ho' ha hb hc hm) (test_lift chain_lift)
end

/-! ### truth, and, or, not -/
/-- the items of a list: a remembered one or a read-only one -/
def itemsL (m : Mem) : D → Option (List D)
  | .rol xs => some xs
  | .ref a => match m a with
    | some (.lst xs) => some xs
    | _ => none
  | _ => none
def truD (d : D) (m : Mem) : Option Bool := match d with
  | .non => some false
  | .bl b => some b
  | .int i => some (i != 0)
  | .tup xs => some (!xs.isEmpty)
  | .ftup xs => some (!xs.isEmpty)
  | .rol xs => some (!xs.isEmpty)
  | .ref a => match m a with
    | some (.lst xs) => some (!xs.isEmpty)
    | _ => none
  | _ => none
theorem isEmpty_reps {K : PySem.W.Frag} {H : Hp} {ds : List D} {vs : List V} (r : Reps K H ds vs) : (!ds.isEmpty) = !vs.isEmpty := by cases r <;> rfl
theorem rol_sq {K : PySem.W.Frag} {H : Hp} {a : Addr} {vs : List V} (h : (∃ o, H a = some (.frz o (.lst vs))) ∨ (∃ (o : Obj) (its : Array Value) (n : Nat), K.lookup a = some o ∧ o.cls = .type "list" ∧ o.dict = none ∧ o.data = .seq its n ∧ its.size ≤ sizeLine ∧ Vals vs its.toList)) : SqL K H a vs := by
  rcases h with ⟨o, h⟩ | h
  · exact .inl (.inr ⟨o, h⟩)
  · exact .inr h
theorem Sim.sq {K : PySem.W.Frag} {H : Hp} {m : Mem} {d : D} {v : V} {xs : List D} (s : Sim K H m) (r : Rep K H d v) (e : itemsL m d = some xs) : ∃ a vs, v = .ref a ∧ SqL K H a vs ∧ Reps K H xs vs := by
  cases r with
  | rol h rs => cases e; exact ⟨_, _, rfl, rol_sq h, rs⟩
  | ref a =>
    unfold itemsL at e
    dsimp only at e
    split at e
    · rename_i ys q; cases e; obtain ⟨vs, h, r⟩ := s a _ q; exact ⟨a, vs, rfl, .inl (.inl h), r⟩
    · cases e
  | _ => cases e
theorem truD_ok {K : PySem.W.Frag} {H : Hp} {m : Mem} {d : D} {v : V} {k : Bool} (s : Sim K H m) (r : Rep K H d v) (e : truD d m = some k) : TruV K v H k := by
  cases r with
  | non => cases e; rfl
  | bl b => cases e; rfl
  | int i => cases e; rfl
  | str x => cases e
  | ty n => cases e
  | tup h rs => cases e; exact .inr (.inl ⟨_, SqT.of h, isEmpty_reps rs⟩)
  | ftup h _ rs => cases e; exact .inr (.inl ⟨_, .inl (.inr ⟨_, h⟩), isEmpty_reps rs⟩)
  | rol h rs => cases e; exact .inl ⟨_, rol_sq h, isEmpty_reps rs⟩
  | ref a =>
    refine .inl ?_
    unfold truD at e
    dsimp only at e
    split at e
    · rename_i xs q
      obtain ⟨vs, h, rr⟩ := s a _ q
      cases e
      exact ⟨vs, .inl (.inl h), isEmpty_reps rr⟩
    · cases e
def dTruth (t : DTE) : DTT := fun ρ m q => t ρ m fun d m' => match truD d m' with | some b => q b m' | none => False
def dAnd (t u : DTT) : DTT := fun ρ m q => t ρ m fun c m1 => if c = true then u ρ m1 q else q false m1
def dOr (t u : DTT) : DTT := fun ρ m q => t ρ m fun c m1 => if c = true then q true m1 else u ρ m1 q
def dNot (t : DTT) : DTT := fun ρ m q => t ρ m fun c m1 => q (!c) m1
def dAndV (ta tb : DTE) : DTE := fun ρ m q => ta ρ m fun x m1 => match x with | .bl c => if c = true then tb ρ m1 q else q (.bl false) m1 | _ => False
def dOrV (ta tb : DTE) : DTE := fun ρ m q => ta ρ m fun x m1 => match x with | .bl c => if c = true then q (.bl true) m1 else tb ρ m1 q | _ => False
def dNotV (ta : DTE) : DTE := fun ρ m q => ta ρ m fun x m1 => match x with | .bl c => q (.bl (!c)) m1 | _ => False
def dIf (t : DTT) (ta tb : DTE) : DTE := fun ρ m q => t ρ m fun c m1 => if c = true then ta ρ m1 q else tb ρ m1 q
section
variable {X : Cx} {B : Bs} {a b c : Expr} {ta tb tc : DTE} {tA tB : DTT} {pos : Pos} {rest : List Expr}
theorem dt_truth (ha : DE B X a ta) (he : ∀ whole, isTrue a X.env whole = (do let v ← whole; standAt a.pos; holding [v] (truthy v)) := by intro _; rfl) : DT B X a (dTruth ta) :=
  pt_imp (pt_truth ha he) fun σ H Q ⟨ρ, m, q, p, h, post⟩ => ⟨ρ, m, _, p, h, fun d m1 v H1 h1 r1 s1 t1 => by
    cases e : truD d m1 with
    | none => rw [e] at h1; exact h1.elim
    | some k => rw [e] at h1; exact ⟨k, truD_ok s1 r1 e, post k m1 H1 h1 s1 t1⟩⟩
theorem or_lift {K : PySem.W.Frag} : ∀ σ H Q, upT K B (dOr tA tB) σ H Q → tOr (upT K B tA) (upT K B tB) σ H Q :=
  fun σ H Q ⟨ρ, m, q, p, h, post⟩ => ⟨ρ, m, _, p, h, fun k m1 H1 h1 s1 t1 => by
    cases k with
    | false => exact ⟨ρ, m1, q, p.next s1 t1, h1, fun k2 m2 H2 h2 s2 t2 => post k2 m2 H2 h2 s2 (t1.trans t2)⟩
    | true => exact post true m1 H1 h1 s1 t1⟩
theorem dw_or1 (ha : DT B X a tA) : DW B X (.BoolOp .Or [a] pos) tA := pw_or1 ha
theorem dw_or (ha : DT B X a tA) (hb : DW B X (.BoolOp .Or (b :: rest) pos) tB) : DW B X (.BoolOp .Or (a :: b :: rest) pos) (dOr tA tB) := pw_imp (pw_or ha hb) or_lift
theorem dt_w {e : Expr} (h : DW B X e tA) : DT B X e tA := PW.pt h
theorem dt_not (ha : DT B X a tA) : DT B X (.UnaryOp .Not a pos) (dNot tA) :=
  pt_imp (pt_not ha) fun σ H Q ⟨ρ, m, q, p, h, post⟩ => ⟨ρ, m, _, p, h, fun k m1 H1 h1 s1 t1 => post (!k) m1 H1 h1 s1 t1⟩
theorem de_one {op} {t : DTE} (h : DE B X a t) : DE B X (.BoolOp op [a] pos) t := pe_one h
theorem de_and (ha : DE B X a ta) (hb : DE B X (.BoolOp .And (b :: rest) pos) tb) : DE B X (.BoolOp .And (a :: b :: rest) pos) (dAndV ta tb) :=
  pe_imp (pe_and ha hb) fun σ H Q ⟨ρ, m, q, p, h, post⟩ => ⟨ρ, m, _, p, h, fun d m1 v H1 h1 r1 s1 t1 => by
    cases d with
    | bl k =>
      cases r1
      refine ⟨k, rfl, ?_⟩
      cases k with
      | true => exact ⟨ρ, m1, q, p.next s1 t1, h1, fun d2 m2 v2 H2 h2 r2 s2 t2 => post d2 m2 v2 H2 h2 r2 s2 (t1.trans t2)⟩
      | false => exact post (.bl false) m1 _ H1 h1 (.bl false) s1 t1
    | _ => exact (show False from h1).elim⟩
theorem de_not (ha : DE B X a ta) : DE B X (.UnaryOp .Not a pos) (dNotV ta) :=
  pe_imp (pe_not ha) fun σ H Q ⟨ρ, m, q, p, h, post⟩ => ⟨ρ, m, _, p, h, fun d m1 v H1 h1 r1 s1 t1 => by
    cases d with
    | bl k => cases r1; exact ⟨k, rfl, post (.bl (!k)) m1 _ H1 h1 (.bl (!k)) s1 t1⟩
    | _ => exact (show False from h1).elim⟩
theorem de_ifExp (hc : DT B X c tA) (ha : DE B X a ta) (hb : DE B X b tb) : DE B X (.IfExp c a b pos) (dIf tA ta tb) :=
  pe_imp (pe_ifExp hc ha hb) fun σ H Q ⟨ρ, m, q, p, h, post⟩ => ⟨ρ, m, _, p, h, fun k m1 H1 h1 s1 t1 => by
    cases k with
    | true => exact ⟨ρ, m1, q, p.next s1 t1, h1, fun d2 m2 v2 H2 h2 r2 s2 t2 => post d2 m2 v2 H2 h2 r2 s2 (t1.trans t2)⟩
    | false => exact ⟨ρ, m1, q, p.next s1 t1, h1, fun d2 m2 v2 H2 h2 r2 s2 t2 => post d2 m2 v2 H2 h2 r2 s2 (t1.trans t2)⟩⟩
end

/-! ### arguments, displays, calls of built-ins -/
def dNil : DTA := fun _ m q => q [] m
def dCons (ta : DTE) (tr : DTA) : DTA := fun ρ m q => ta ρ m fun d m1 => tr ρ m1 fun ds m2 => q (d :: ds) m2
/-- a new list among the arguments: it is remembered -/
def dTup (t : DTA) : DTE := fun ρ m q => t ρ m fun ds m1 => ds.length ≤ sizeLine ∧ q (.tup ds) m1
def dLst (t : DTA) : DTL := fun ρ m q => t ρ m fun ds m1 => ds.length ≤ sizeLine ∧ q ds m1
def dCB (r : DRC) (t : DTA) : DTE := fun ρ m q => t ρ m fun ds m1 => r ds m1 q
section
variable {X : Cx} {B : Bs} {e : Expr} {es : List Expr} {te : DTE} {t : DTA} {pos p : Pos} {x : Str} {id T : String} {r : DRC}
theorem da_nil : DA B X [] dNil := pa_imp pa_nil fun σ H Q ⟨ρ, m, q, p, h, post⟩ => post [] m [] H h .nil p.sim (Step.refl _ _)
theorem da_cons (ha : DE B X e te) (hr : DA B X es t) (hs : starEach (e :: es) X.env = (false, eval e X.env) :: starEach es X.env := by rfl) : DA B X (e :: es) (dCons te t) :=
  pa_imp (pa_cons ha hr hs) fun σ H Q ⟨ρ, m, q, p, h, post⟩ => ⟨ρ, m, _, p, h, fun d m1 v H1 h1 r1 s1 t1 => ⟨ρ, m1, _, p.next s1 t1, h1, fun ds m2 vs H2 h2 r2 s2 t2 =>
    post (d :: ds) m2 (v :: vs) H2 h2 (.cons (r1.mono t2.ext) r2) s2 (t1.trans t2)⟩⟩
theorem de_tup {x1} (h : DA B X es t) : DE B X (.Tuple es x1 pos) (dTup t) :=
  pe_imp (pe_tup h) fun σ H Q ⟨ρ, m, q, p, h, post⟩ => ⟨ρ, m, _, p, h, fun ds m1 vs H1 ⟨hz, h1⟩ r1 s1 t1 => ⟨by rw [← r1.length]; exact hz, fun a ha =>
    post (.tup ds) m1 (.ref a) _ h1 (.tup upd_same (r1.mono (upd_new ha))) (s1.alloc ha) (t1.trans (Step.alloc ha))⟩⟩
theorem dl_lst (h : DA B X es t) : DL B X (.List es pos) (dLst t) :=
  pe_imp (pe_lst h) fun σ H Q ⟨ρ, m, q, p, h, post⟩ => ⟨ρ, m, _, p, h, fun ds m1 vs H1 ⟨hz, h1⟩ r1 s1 t1 => ⟨by rw [← r1.length]; exact hz, fun a ha => by
    have hm : m1 a = none := s1.free ha
    exact post ds m1 a vs _ h1 upd_same (r1.mono (upd_new ha)) hm (t1.dom a ha) (s1.alloc ha) (t1.trans (Step.alloc ha))⟩⟩
end
end L2.Lh

namespace L2.Lh
open PySem PySem.Spec PyProof.Rows

/-! ### operators by values -/
theorem PostE.here {K : PySem.W.Frag} {H : Hp} {m : Mem} {q : DQ} {Q : VK} {d : D} {v : V} (p : PostE K H m q Q) (h : q d m) (r : Rep K H d v) (s : Sim K H m) : Q v H := p d m v H h r s (Step.refl _ _)
theorem PostE.tup {K : PySem.W.Frag} {H : Hp} {m : Mem} {q : DQ} {Q : VK} {ds : List D} {vs : List V} {a : Addr} (p : PostE K H m q Q) (h : q (.tup ds) m) (n : H a = none) (r : Reps K H ds vs) (s : Sim K H m) : Q (.ref a) (upd H a (.tup vs)) :=
  p _ m _ _ h (.tup upd_same (r.mono (upd_new n))) (s.alloc n) (Step.alloc n)
theorem PostE.lst {K : PySem.W.Frag} {H : Hp} {m : Mem} {q : DQ} {Q : VK} {ds : List D} {vs : List V} {a : Addr} (p : PostE K H m q Q) (h : ∀ a, m a = none → q (.ref a) (m.set a (.lst ds))) (n : H a = none) (r : Reps K H ds vs) (s : Sim K H m) : Q (.ref a) (upd H a (.lst vs)) :=
  p _ _ _ _ (h a (s.free n)) (.ref a) (s.allocM n ⟨vs, upd_same, r.mono (upd_new n)⟩) (Step.allocM n)
/-- a remembered list is rewritten, d is given back -/
theorem PostE.wrt {K : PySem.W.Frag} {H : Hp} {m : Mem} {q : DQ} {Q : VK} {ds : List D} {vs : List V} {a : Addr} {w : MO} {d : D} {v : V} (p : PostE K H m q Q) (e : m a = some w) (h : q d (m.set a (.lst ds))) (r : Reps K H ds vs) (rd : Rep K H d v) (s : Sim K H m) (hw : w.mut = true := by rfl) : Q v (upd H a (.lst vs)) :=
  p _ _ _ _ h (rd.mono (upd_old s e hw)) (s.write e ⟨vs, upd_same, r.mono (upd_old s e hw)⟩ hw) (Step.write s e hw)
section
variable {X : Cx}
def addD : DR2
  | .int i, .int j, m, q => q (.int (i + j)) m
  | .str x, .str y, m, q => x.length + y.length ≤ sizeLine ∧ q (.str (x ++ y)) m
  | .tup xs, .tup ys, m, q => xs.length + ys.length ≤ sizeLine ∧ q (.tup (xs ++ ys)) m
  | .ref a, .ref b, m, q => ∃ xs ys, m a = some (.lst xs) ∧ m b = some (.lst ys) ∧ xs.length + ys.length ≤ sizeLine ∧ ∀ p, m p = none → q (.ref p) (m.set p (.lst (xs ++ ys)))
  | _, _, _, _ => False
theorem d_add : OpD X (binaryOp .Add) addD := by
  intro pins s σ H x y v u Q I rx ry ⟨dx, dy, m, q, r1, r2, sim, h, post⟩
  cases dx with
  | int i =>
    cases dy with
    | int j => cases r1; cases r2; exact op_add pins s σ H _ _ v u Q I rx ry ⟨i, j, rfl, rfl, post.here h (.int _) sim⟩
    | _ => exact (show False from h).elim
  | str i =>
    cases dy with
    | str j => cases r1; cases r2; exact op_add_str pins s σ H _ _ v u Q I rx ry ⟨i, j, rfl, rfl, h.1, post.here h.2 (.str _) sim⟩
    | _ => exact (show False from h).elim
  | tup xs =>
    cases dy with
    | tup ys =>
      cases r1 with
      | tup h1 q1 =>
        cases r2 with
        | tup h2 q2 =>
          have hz : xs.length + ys.length ≤ sizeLine := h.1
          have hq : q (.tup (xs ++ ys)) m := h.2
          refine op_catA pins s σ H _ _ v u Q I rx ry ⟨_, _, _, _, rfl, rfl, SqT.of h1, SqT.of h2, by rw [← q1.length, ← q2.length]; exact hz, fun e => ?_, fun _ e => ?_, fun _ _ p hp => post.tup hq hp (q1.append q2) sim⟩
          · subst e
            cases q1
            exact post.here hq (.tup h2 q2) sim
          · subst e
            cases q2
            rw [List.append_nil] at hq
            exact post.here hq (.tup h1 q1) sim
    | _ => exact (show False from h).elim
  | ref a =>
    cases dy with
    | ref b =>
      cases r1; cases r2
      obtain ⟨xs, ys, ha, hb, hz, hq⟩ := h
      obtain ⟨va, ea, qa⟩ := sim a _ ha
      obtain ⟨vb, eb, qb⟩ := sim b _ hb
      exact op_cat pins s σ H _ _ v u Q I rx ry ⟨a, b, va, vb, rfl, rfl, ea, eb, by rw [← qa.length, ← qb.length]; exact hz, fun p hp => post.lst hq hp (qa.append qb) sim⟩
    | _ => exact (show False from h).elim
  | _ => exact (show False from h).elim
/-- two ints -/
def iiD (C : Int → Int → Prop) (g : Int → Int → D) : DR2
  | .int i, .int j, m, q => C i j ∧ q (g i j) m
  | _, _, _, _ => False
def ii0 (g : Int → Int → D) : DR2
  | .int i, .int j, m, q => q (g i j) m
  | _, _, _, _ => False
theorem d_ii {f : Value → Value → Sem Value} {C : Int → Int → Prop} {g : Int → Int → Int} (ho : OpR X f (rI C fun i j => .int (g i j))) : OpD X f (iiD C fun i j => .int (g i j)) := by
  intro pins s σ H x y v u Q I rx ry ⟨dx, dy, m, q, r1, r2, sim, h, post⟩
  cases dx with
  | int i =>
    cases dy with
    | int j => cases r1; cases r2; exact ho pins s σ H _ _ v u Q I rx ry ⟨i, j, rfl, rfl, h.1, post.here h.2 (.int _) sim⟩
    | _ => exact (show False from h).elim
  | _ => exact (show False from h).elim
theorem d_ii0 {f : Value → Value → Sem Value} {g : Int → Int → Int} (ho : OpR X f (rI0 fun i j => .int (g i j))) : OpD X f (ii0 fun i j => .int (g i j)) := by
  intro pins s σ H x y v u Q I rx ry ⟨dx, dy, m, q, r1, r2, sim, h, post⟩
  cases dx with
  | int i =>
    cases dy with
    | int j => cases r1; cases r2; exact ho pins s σ H _ _ v u Q I rx ry ⟨i, j, rfl, rfl, post.here h (.int _) sim⟩
    | _ => exact (show False from h).elim
  | _ => exact (show False from h).elim
theorem d_ib {f : Value → Value → Sem Value} {g : Int → Int → Bool} (ho : OpR X f (rI0 fun i j => .bl (g i j))) : OpD X f (ii0 fun i j => .bl (g i j)) := by
  intro pins s σ H x y v u Q I rx ry ⟨dx, dy, m, q, r1, r2, sim, h, post⟩
  cases dx with
  | int i =>
    cases dy with
    | int j => cases r1; cases r2; exact ho pins s σ H _ _ v u Q I rx ry ⟨i, j, rfl, rfl, post.here h (.bl _) sim⟩
    | _ => exact (show False from h).elim
  | _ => exact (show False from h).elim
abbrev subD : DR2 := ii0 fun i j => .int (i - j)
abbrev fdivD : DR2 := iiD CDiv fun i j => .int (i / j)
abbrev modD : DR2 := iiD (fun _ j => 0 < j) fun i j => .int (i % j)
abbrev powD : DR2 := iiD CPow fun i j => .int (i ^ j.toNat)
abbrev ltD : DR2 := ii0 fun i j => .bl (decide (i < j))
abbrev leD : DR2 := ii0 fun i j => .bl (decide (i ≤ j))
abbrev gtD : DR2 := ii0 fun i j => .bl (decide (j < i))
abbrev geD : DR2 := ii0 fun i j => .bl (decide (j ≤ i))
theorem d_sub : OpD X (binaryOp .Sub) subD := d_ii0 op_sub
theorem d_fdiv : OpD X (binaryOp .FloorDiv) fdivD := d_ii op_fdiv
theorem d_mod : OpD X (binaryOp .Mod) modD := d_ii op_mod
theorem d_pow : OpD X (binaryOp .Pow) powD := d_ii op_pow
theorem d_lt : OpD X (compareOp .Lt) ltD := d_ib op_lt
theorem d_le : OpD X (compareOp .LtE) leD := d_ib op_le
theorem d_ge : OpD X (compareOp .GtE) geD := d_ib op_ge
abbrev addI : DR2 := ii0 fun i j => .int (i + j)
theorem di_addI : OpD X (inplaceOp .Add) addI := d_ii0 iop_add
def mulD : DR2
  | .int i, .int j, m, q => CMul i j ∧ q (.int (i * j)) m
  | .ref a, .int k, m, q => ∃ xs, m a = some (.lst xs) ∧ -(2 ^ 63) ≤ k ∧ k < 2 ^ 63 ∧ xs.length * k.toNat ≤ sizeLine ∧ ∀ p, m p = none → q (.ref p) (m.set p (.lst (List.replicate k.toNat xs).flatten))
  | .tup xs, .int k, m, q => xs ≠ [] ∧ 2 ≤ k ∧ k ≤ 1000 ∧ xs.length ≤ 1000 ∧ q (.tup (List.replicate k.toNat xs).flatten) m
  | _, _, _, _ => False
theorem d_mul : OpD X (binaryOp .Mult) mulD := by
  intro pins s σ H x y v u Q I rx ry ⟨dx, dy, m, q, r1, r2, sim, h, post⟩
  cases dx with
  | int i =>
    cases dy with
    | int j => cases r1; cases r2; exact op_mul pins s σ H _ _ v u Q I rx ry ⟨i, j, rfl, rfl, h.1, post.here h.2 (.int _) sim⟩
    | _ => exact (show False from h).elim
  | ref a =>
    cases dy with
    | int j =>
      cases r1; cases r2
      obtain ⟨xs, ha, h1, h2, hz, hq⟩ := h
      obtain ⟨va, ea, qa⟩ := sim a _ ha
      exact op_rep pins s σ H _ _ v u Q I rx ry ⟨a, j, va, rfl, rfl, ea, h1, h2, by rw [← qa.length]; exact hz, fun p hp => post.lst hq hp (qa.rep _) sim⟩
    | _ => exact (show False from h).elim
  | tup xs =>
    cases dy with
    | int j =>
      cases r2
      obtain ⟨h0, h1, h2, hz, hq⟩ := h
      cases r1 with
      | tup e1 q1 =>
        exact op_repT pins s σ H _ _ v u Q I rx ry ⟨_, j, _, rfl, rfl, SqT.of e1, fun z => h0 (by
          subst z; cases q1; rfl), h1, h2, by rw [← q1.length]; exact hz, fun p hp => post.tup hq hp (q1.rep _) sim⟩
    | _ => exact (show False from h).elim
  | _ => exact (show False from h).elim
def negD : DR1
  | .int i, m, q => q (.int (-i)) m
  | _, _, _ => False
/-! ### == of data -/
mutual
def pyW (f : Addr → Option PyData) : D → Option PyData
  | .non => some .none
  | .bl b => some (.bool b)
  | .int i => some (.int i)
  | .str x => some (.str x)
  | .ty _ => none
  | .ref a => f a
  | .tup xs => (pyWs f xs).map .tuple
  | .ftup xs => (pyWs f xs).map .tuple
  | .rol xs => (pyWs f xs).map .list
def pyWs (f : Addr → Option PyData) : List D → Option (List PyData)
  | [] => some []
  | d :: ds => match pyW f d, pyWs f ds with
    | some p, some ps => some (p :: ps)
    | _, _ => none
end
def pyA (m : Mem) : Nat → Addr → Option PyData
  | 0, _ => none
  | n + 1, a => match m a with
    | some (.lst xs) => (pyWs (pyA m n) xs).map .list
    | _ => none
abbrev pyD (m : Mem) (d : D) : Option PyData := pyW (pyA m 3) d
abbrev pyDs (m : Mem) (ds : List D) : Option (List PyData) := pyWs (pyA m 3) ds
mutual
theorem pyW_ok {K : PySem.W.Frag} {H : Hp} {f : Addr → Option PyData} (hf : ∀ a p, f a = some p → Dp K H (.ref a) p) : ∀ {d : D} {v : V} {p : PyData}, Rep K H d v → pyW f d = some p → Dp K H v p
  | _, _, _, .non, e => by cases e; exact .non
  | _, _, _, .bl b, e => by cases e; exact .bl b
  | _, _, _, .int b, e => by cases e; exact .int b
  | _, _, _, .str b, e => by cases e; exact .str b
  | _, _, _, .ty b, e => by cases e
  | _, _, _, .ref a, e => hf a _ e
  | .tup xs, _, _, .tup h r, e => by
    unfold pyW at e
    cases q : pyWs f xs with
    | none => rw [q] at e; cases e
    | some ps => rw [q] at e; cases e; exact .tup (SqT.of h) (pyWs_ok hf r q)
  | .ftup xs, _, _, .ftup h _ r, e => by
    unfold pyW at e
    cases q : pyWs f xs with
    | none => rw [q] at e; cases e
    | some ps => rw [q] at e; cases e; exact .tup (.inl (.inr ⟨_, h⟩)) (pyWs_ok hf r q)
  | .rol xs, _, _, .rol h r, e => by
    unfold pyW at e
    cases q : pyWs f xs with
    | none => rw [q] at e; cases e
    | some ps => rw [q] at e; cases e; exact .lst (rol_sq h) (pyWs_ok hf r q)
theorem pyWs_ok {K : PySem.W.Frag} {H : Hp} {f : Addr → Option PyData} (hf : ∀ a p, f a = some p → Dp K H (.ref a) p) : ∀ {ds : List D} {vs : List V} {ps : List PyData}, Reps K H ds vs → pyWs f ds = some ps → DpAll K H vs ps
  | _, _, _, .nil, e => by cases e; exact .nil
  | d :: ds, _, _, .cons h r, e => by
    unfold pyWs at e
    cases q1 : pyW f d with
    | none => rw [q1] at e; cases e
    | some p =>
      cases q2 : pyWs f ds with
      | none => rw [q1, q2] at e; cases e
      | some ps => rw [q1, q2] at e; cases e; exact .cons (pyW_ok hf h q1) (pyWs_ok hf r q2)
end
theorem pyA_ok {K : PySem.W.Frag} {H : Hp} {m : Mem} (s : Sim K H m) : ∀ (n : Nat) (a : Addr) (p : PyData), pyA m n a = some p → Dp K H (.ref a) p
  | 0, _, _, e => by cases e
  | n + 1, a, p, e => by
    unfold pyA at e
    split at e
    · rename_i xs q
      obtain ⟨vs, h, r⟩ := s a _ q
      cases z : pyWs (pyA m n) xs with
      | none => rw [z] at e; cases e
      | some ps => rw [z] at e; cases e; exact .lst (SqL.of h) (pyWs_ok (pyA_ok s n) r z)
    · cases e
def eqD : DR2 := fun x y m q => match x, y with
  | .int i, .int j => q (.bl (i == j)) m
  | .str i, .str j => q (.bl (decide (i = j))) m
  | x, y => match pyD m x, pyD m y with
    | some a, some b => SeqAt.shaped a = true ∧ SeqAt.shaped b = true ∧ q (.bl (PyData.eqv a b)) m
    | _, _ => False
def neD : DR2 := fun x y m q => match x, y with
  | .int i, .int j => q (.bl (!(i == j))) m
  | .str i, .str j => q (.bl (!decide (i = j))) m
  | x, y => match pyD m x, pyD m y with
    | some a, some b => SeqAt.shaped a = true ∧ SeqAt.shaped b = true ∧ q (.bl (!PyData.eqv a b)) m
    | _, _ => False
theorem dec_strV {i j : Str} : decide (V.str i = V.str j) = decide (i = j) := by
  by_cases h : i = j
  · subst h; simp
  · have : V.str i ≠ V.str j := fun e => h (V.str.inj e)
    rw [decide_eq_false h, decide_eq_false this]
theorem d_eq (hu : X.A.units + 64 < cLine) : OpD X (compareOp .Eq) eqD := by
  intro pins s σ H x y v u Q I rx ry ⟨dx, dy, m, q, r1, r2, sim, h, post⟩
  have gen : ∀ a b, pyD m dx = some a → pyD m dy = some b → SeqAt.shaped a = true → SeqAt.shaped b = true → q (.bl (PyData.eqv a b)) m → wpAny (model X.prog X.w) X.A (compareOp .Eq v u) (EP X pins σ Q) X.xe s := fun a b e1 e2 h1 h2 h3 =>
    op_eqD hu pins s σ H _ _ v u Q I rx ry ⟨a, b, pyW_ok (pyA_ok sim 3) r1 e1, pyW_ok (pyA_ok sim 3) r2 e2, h1, h2, post.here h3 (.bl _) sim⟩
  unfold eqD at h
  split at h
  · rename_i i j; exact gen (.int i) (.int j) rfl rfl (by simp [SeqAt.shaped, PyData.canLay0, PyData.depth]) (by simp [SeqAt.shaped, PyData.canLay0, PyData.depth]) h
  · rename_i i j; cases r1; cases r2; exact op_eq pins s σ H _ _ v u Q I rx ry ⟨rfl, by rw [dec_strV]; exact post.here h (.bl _) sim⟩
  · split at h
    · rename_i a b e1 e2; exact gen a b e1 e2 h.1 h.2.1 h.2.2
    · exact h.elim
theorem d_ne (hu : X.A.units + 64 < cLine) : OpD X (compareOp .NotEq) neD := by
  intro pins s σ H x y v u Q I rx ry ⟨dx, dy, m, q, r1, r2, sim, h, post⟩
  have gen : ∀ a b, pyD m dx = some a → pyD m dy = some b → SeqAt.shaped a = true → SeqAt.shaped b = true → q (.bl (!PyData.eqv a b)) m → wpAny (model X.prog X.w) X.A (compareOp .NotEq v u) (EP X pins σ Q) X.xe s := fun a b e1 e2 h1 h2 h3 =>
    op_neD hu pins s σ H _ _ v u Q I rx ry ⟨a, b, pyW_ok (pyA_ok sim 3) r1 e1, pyW_ok (pyA_ok sim 3) r2 e2, h1, h2, post.here h3 (.bl _) sim⟩
  unfold neD at h
  split at h
  · rename_i i j; exact gen (.int i) (.int j) rfl rfl (by simp [SeqAt.shaped, PyData.canLay0, PyData.depth]) (by simp [SeqAt.shaped, PyData.canLay0, PyData.depth]) h
  · rename_i i j; cases r1; cases r2; exact op_ne pins s σ H _ _ v u Q I rx ry ⟨rfl, by rw [dec_strV]; exact post.here h (.bl _) sim⟩
  · split at h
    · rename_i a b e1 e2; exact gen a b e1 e2 h.1 h.2.1 h.2.2
    · exact h.elim
end

/-! ### places -/
theorem Reps.atI {K : PySem.W.Frag} {H : Hp} {ds : List D} {vs : List V} {i : Int} {d : D} (r : Reps K H ds vs) (e : atI ds i = some d) : ∃ v, atI vs i = some v ∧ Rep K H d v := by
  unfold L2.atI at e ⊢
  rw [← r.length]
  cases q : ixN ds.length i with
  | none => rw [q] at e; cases e
  | some j =>
    rw [q] at e
    obtain ⟨v, h1, h2⟩ := r.get (i := j) e
    exact ⟨v, h1, h2⟩
def cutL {α : Type} (xs : List α) (lo hi : Option Int) : List α := (xs.drop (HT.sIx xs.length 0 lo)).take (HT.sIx xs.length xs.length hi - HT.sIx xs.length 0 lo)
/-- the items of a list or tuple -/
def itemsOf (m : Mem) : D → Option (List D)
  | .tup xs => some xs
  | .ftup xs => some xs
  | .rol xs => some xs
  | .ref a => match m a with
    | some (.lst xs) => some xs
    | _ => none
  | _ => none
theorem Sim.seq {K : PySem.W.Frag} {H : Hp} {m : Mem} {d : D} {v : V} {xs : List D} (s : Sim K H m) (r : Rep K H d v) (e : itemsOf m d = some xs) : ∃ a vs, v = .ref a ∧ (SqL K H a vs ∨ SqT K H a vs) ∧ Reps K H xs vs := by
  cases r with
  | tup h rs => cases e; exact ⟨_, _, rfl, .inr (SqT.of h), rs⟩
  | ftup h _ rs => cases e; exact ⟨_, _, rfl, .inr (.inl (.inr ⟨_, h⟩)), rs⟩
  | rol h rs => cases e; exact ⟨_, _, rfl, .inl (rol_sq h), rs⟩
  | ref a =>
    unfold itemsOf at e
    dsimp only at e
    split at e
    · rename_i ys q; cases e; obtain ⟨vs, h, r⟩ := s a _ q; exact ⟨a, vs, rfl, .inl (.inl (.inl h)), r⟩
    · cases e
  | _ => cases e
section
variable {X : Cx} {B : Bs} {a b e o : Expr} {es : List Expr} {ta tb te : DTE} {t : DTA} {pos p2 apos cpos : Pos} {lo hi : Option Expr}
def ixD : DR2 := fun x y m q => match y with
  | .int i => match itemsOf m x with
    | some xs => match atI xs i with
      | some d => q d m
      | none => False
    | none => False
  | _ => False
theorem d_ix : IxR X (up2 X.K ixD) := by
  intro value slice pins s σ H x y v u Q I rx ry ⟨dx, dy, m, q, r1, r2, sim, h, post⟩ hs
  unfold ixD at h
  split at h
  · rename_i i
    split at h
    · rename_i xs e
      split at h
      · rename_i d ed
        cases r2
        obtain ⟨p, vs, rfl, hq, rs⟩ := sim.seq r1 e
        obtain ⟨w, ew, rw'⟩ := rs.atI ed
        rcases hq with hq | hq
        · exact ix_list value slice pins s σ H _ _ v u Q I rx ry ⟨p, vs, i, w, rfl, rfl, hq, ew, post.here h rw' sim⟩ hs
        · exact ix_tup value slice pins s σ H _ _ v u Q I rx ry ⟨p, vs, i, w, rfl, rfl, hq, ew, post.here h rw' sim⟩ hs
      · exact h.elim
    · exact h.elim
  · exact h.elim
theorem de_ix (ha : DE B X a ta) (hb : DE B X b tb) (hs : PlainIx b := by exact fun _ _ => rfl) : DE B X (.Subscript a b pos) (dOp ixD ta tb) := pe_imp (pe_ix d_ix ha hb hs) op_lift
/-! slices -/
abbrev DTO := DEnv → Mem → (Option Int → Mem → Prop) → Prop
def dNoPart : DTO := fun _ m q => q none m
def dPart (t : DTE) : DTO := fun ρ m q => t ρ m fun d m' => match d with | .int i => q (some i) m' | _ => False
def slD (d : D) (lo hi : Option Int) (m : Mem) (q : DQ) : Prop := match d with
  | .tup xs => q (.tup (cutL xs lo hi)) m
  | .rol xs => ∀ p, m p = none → q (.ref p) (m.set p (.lst (cutL xs lo hi)))
  | .ref a => match m a with
    | some (.lst xs) => ∀ p, m p = none → q (.ref p) (m.set p (.lst (cutL xs lo hi)))
    | _ => False
  | _ => False
def dSl (te : DTE) (tl th : DTO) : DTE := fun ρ m q => te ρ m fun x m1 => tl ρ m1 fun l m2 => th ρ m2 fun u m3 => slD x l u m3 q
/-! ### methods of lists -/
abbrev DRM := D → List D → Mem → DQ → Prop
def upM (K : PySem.W.Frag) (r : DRM) : V → List V → Hp → VK → Prop := fun x xs H Q => ∃ d ds m q, Rep K H d x ∧ Reps K H ds xs ∧ Sim K H m ∧ r d ds m q ∧ PostE K H m q Q
def dBM (r : DRM) (to : DTE) (t : DTA) : DTE := fun ρ m q => to ρ m fun x m1 => (∃ a xs, x = .ref a ∧ m1 a = some (.lst xs)) ∧ t ρ m1 fun ds m2 => r x ds m2 q
variable {name : Str} {id : String} {r : DRM} {to : DTE}
theorem de_bmL (slot : Slot "list" name id) (hty : typeOf (.builtin id) = pure (.type "method_descriptor")) (hm : MtR X id (upM X.K r)) (ho : DE B X o to) (ha : DA B X (e :: es) t)
    (hbase : attributeBase o name X.env (eval o X.env) = eval o X.env := by rfl)
    (hfew : ((backTo cpos (starEach (e :: es) X.env)).all (fun x => !x.1) && (backToKw cpos (keywordEach [] X.env)).all (fun x => x.1.isSome)
      && decide ((e :: es).length + ([] : List Keyword).length + (if ([] : List Keyword).isEmpty then 0 else 1) < 30)) = true := by rfl)
    (hline : (apos.endLine == cpos.line) = true := by rfl) (hs : starEach (e :: es) X.env = (false, eval e X.env) :: starEach es X.env := by rfl) (hplain : (backTo cpos (starEach es X.env)).any (·.1) = false := by rfl) :
    DE B X (.Call (.Attribute o name apos) (e :: es) [] cpos) (dBM r to t) :=
  pe_imp (pe_bm PySem.F.plainAttrs_list slot hty hm ho ha hbase hfew hline hs hplain) fun σ H Q ⟨ρ, m, q, p, h, post⟩ => ⟨ρ, m, _, p, h, fun d m1 v H1 ⟨⟨a, xs, hd, hm1⟩, h1⟩ r1 s1 t1 => by
    subst hd
    cases r1
    obtain ⟨vs, hv, _⟩ := s1 a _ hm1
    exact ⟨.inl ⟨rfl, vs, SqL.of hv⟩, ρ, m1, _, p.next s1 t1, h1, fun ds m2 us H2 h2 r2 s2 t2 => ⟨.ref a, ds, m2, q, .ref a, r2, s2, h2, fun d3 m3 v3 H3 h3 r3 s3 t3 => post d3 m3 v3 H3 h3 r3 s3 (t1.trans (t2.trans t3))⟩⟩⟩
theorem de_bmL0 (slot : Slot "list" name id) (hty : typeOf (.builtin id) = pure (.type "method_descriptor")) (hm : MtR X id (upM X.K r)) (ho : DE B X o to)
    (hbase : attributeBase o name X.env (eval o X.env) = eval o X.env := by rfl) (hline : (apos.endLine == cpos.line) = true := by rfl) :
    DE B X (.Call (.Attribute o name apos) [] [] cpos) (dBM r to dNil) :=
  pe_imp (pe_bm0 PySem.F.plainAttrs_list slot hty hm ho hbase hline) fun σ H Q ⟨ρ, m, q, p, h, post⟩ => ⟨ρ, m, _, p, h, fun d m1 v H1 ⟨⟨a, xs, hd, hm1⟩, h1⟩ r1 s1 t1 => by
    subst hd
    cases r1
    obtain ⟨vs, hv, _⟩ := s1 a _ hm1
    exact ⟨.inl ⟨rfl, vs, SqL.of hv⟩, .ref a, [], m1, q, .ref a, .nil, s1, h1, fun d3 m3 v3 H3 h3 r3 s3 t3 => post d3 m3 v3 H3 h3 r3 s3 (t1.trans t3)⟩⟩
def appendD : DRM
  | .ref a, [d], m, q => ∃ xs, m a = some (.lst xs) ∧ xs.length < sizeLine ∧ q .non (m.set a (.lst (xs ++ [d])))
  | _, _, _, _ => False
theorem m_append : MtR X "list.append" (upM X.K appendD) := by
  intro pins s σ H x xs v us Q I rx rv ⟨d, ds, m, q, r1, r2, sim, h, post⟩
  unfold appendD at h
  split at h
  · rename_i a e
    obtain ⟨ys, ha, hz, hq⟩ := h
    cases r1
    obtain ⟨vs, hv, rs⟩ := sim a _ ha
    cases r2 with
    | cons q1 q2 =>
      cases q2
      exact mt_append pins s σ H _ _ v us Q I rx rv ⟨a, vs, _, rfl, rfl, hv, by rw [← rs.length]; exact hz, post.wrt ha hq (rs.append (.cons q1 .nil)) .non sim⟩
  · exact h.elim
def popAtD : DRM
  | .ref a, [.int i], m, q => ∃ xs k d, m a = some (.lst xs) ∧ -(2 ^ 63) ≤ i ∧ i < 2 ^ 63 ∧ seqIndex? i xs.length = some k ∧ xs[k]? = some d ∧ q d (m.set a (.lst (xs.eraseIdx k)))
  | _, _, _, _ => False
theorem m_popAt : MtR X "list.pop" (upM X.K popAtD) := by
  intro pins s σ H x xs v us Q I rx rv ⟨d, ds, m, q, r1, r2, sim, h, post⟩
  unfold popAtD at h
  split at h
  · rename_i a i
    obtain ⟨ys, k, d, ha, h1, h2, hk, hd, hq⟩ := h
    cases r1
    obtain ⟨vs, hv, rs⟩ := sim a _ ha
    obtain ⟨w, hw, rw'⟩ := rs.get hd
    cases r2 with
    | cons q1 q2 =>
      cases q2
      cases q1
      exact mt_popAt pins s σ H _ _ v us Q I rx rv ⟨a, vs, i, k, w, rfl, rfl, hv, h1, h2, by rw [← rs.length]; exact hk, hw, post.wrt ha hq (rs.eraseIdx k) rw' sim⟩
  · exact h.elim
def popD : DRM
  | .ref a, [], m, q => ∃ xs d, m a = some (.lst xs) ∧ xs[xs.length - 1]? = some d ∧ q d (m.set a (.lst xs.dropLast))
  | _, _, _, _ => False
theorem m_pop : MtR X "list.pop" (upM X.K popD) := by
  intro pins s σ H x xs v us Q I rx rv ⟨d, ds, m, q, r1, r2, sim, h, post⟩
  unfold popD at h
  split at h
  · rename_i a
    obtain ⟨ys, d, ha, hd, hq⟩ := h
    cases r1
    obtain ⟨vs, hv, rs⟩ := sim a _ ha
    rw [rs.length] at hd
    obtain ⟨w, hw, rw'⟩ := rs.get hd
    cases r2
    exact mt_pop pins s σ H _ _ v us Q I rx rv ⟨a, vs, w, rfl, rfl, hv, hw, post.wrt ha hq rs.dropLast rw' sim⟩
  · exact h.elim
end
end L2.Lh

namespace L2.Lh
open PySem PySem.Spec PyProof.Rows

/-! ### what is walked -/
structure Itd where
  items : List D
  chk : Mem → Prop
abbrev DTI := DEnv → Mem → (Itd → Mem → Prop) → Prop
structure ItOk (K : PySem.W.Frag) (it : Itd) (J : It) (H0 : Hp) (m0 : Mem) : Prop where
  go : ∀ (i : Nat) (d : D) (m : Mem) (H : Hp), it.items[i]? = some d → Sim K H m → Step H0 m0 H m → it.chk m → J.go i H ∧ ∀ x H', J.yld i H x H' → Rep K H' d x ∧ Sim K H' m ∧ Step H m H' m
  stop : ∀ (m : Mem) (H : Hp), Sim K H m → Step H0 m0 H m → it.chk m → J.stop it.items.length H
def upI (K : PySem.W.Frag) (B : Bs) (t : DTI) : TI := fun σ H R => ∃ ρ m q, Pre K B ρ m σ H ∧ t ρ m q ∧ ∀ it m' J H', q it m' → ItOk K it J H' m' → Sim K H' m' → Step H m H' m' → R J H'
abbrev DI (B : Bs) (X : Cx) (tg iter : Expr) (t : DTI) : Prop := PI X tg iter (upI X.K B t)
section
variable {X : Cx} {B : Bs} {tg : Expr}
theorem pi_imp {iter : Expr} {w w' : TI} (h : PI X tg iter w) (i : ∀ σ H R, w' σ H R → w σ H R) : PI X tg iter w' := ⟨fun pins s σ H R I q => h.run pins s σ H R I (i σ H R q)⟩
theorem pi_seq {l : Expr} {tl : TE} (hl : PE X l tl) : PI X tg l (fun σ H R => tl σ H fun x H1 => ∃ a, x = .ref a ∧ (((∃ xs, SqL X.K H1 a xs) ∧ R (Itl X.K a) H1) ∨ ((∃ xs, SqT X.K H1 a xs) ∧ R (Itt X.K a) H1))) := by
  refine ⟨fun pins s σ H R I h => ?_⟩
  refine thn (hl.run pins s σ H _ I h) fun v s1 ⟨x, H1, I1, r1, q1⟩ => ?_
  obtain ⟨a, e, q1⟩ := q1
  subst e
  cases r1
  rcases q1 with ⟨⟨xs, hq⟩, q⟩ | ⟨⟨xs, hq⟩, q⟩
  · obtain ⟨its, rv, p, hz⟩ := I1.list hq
    refine wpAny_pyIter_list p.isList ?_
    refine ⟨s1.heap.objs.size, [s1.heap.objs.size], _, _, H1, rfl, I1.kept (t' := s1.toks) fun b o e => Heap.get?_push_of_some _ e, turn_list a _, ⟨_, Heap.get?_push_size _ rfl, rfl, rfl⟩, fun b hb => ?_, q⟩
    have e : b = s1.heap.objs.size := by simpa using hb
    subst e
    exact I1.fpOk (Nat.le_refl _) (I1.hok.fresh (Nat.le_refl _))
  · obtain ⟨its, rv, p, hz⟩ := I1.tuple hq
    refine wpAny_pyIter_tuple (show s1.heap.IsTuple a its.toArray from p) ?_
    refine ⟨s1.heap.objs.size, [s1.heap.objs.size], _, _, H1, rfl, I1.kept (t' := s1.toks) fun b o e => Heap.get?_push_of_some _ e, turn_tuple a _, ⟨_, Heap.get?_push_size _ rfl, rfl, rfl⟩, fun b hb => ?_, q⟩
    have e : b = s1.heap.objs.size := by simpa using hb
    subst e
    exact I1.fpOk (Nat.le_refl _) (I1.hok.fresh (Nat.le_refl _))
/-- the items as they are asked for -/
def itOf (m : Mem) (d : D) (q : Itd → Prop) : Prop := match d with
  | .tup xs => q ⟨xs, fun _ => True⟩
  | .ftup xs => q ⟨xs, fun _ => True⟩
  | .rol xs => q ⟨xs, fun _ => True⟩
  | .ref a => match m a with
    | some (.lst xs) => q ⟨xs, fun m' => m' a = some (.lst xs)⟩
    | _ => False
  | _ => False
theorem ItOk.list {K : PySem.W.Frag} {a : Addr} {xs : List D} {H0 : Hp} {m0 : Mem} : ItOk K ⟨xs, fun m' => m' a = some (.lst xs)⟩ (Itl K a) H0 m0 where
  go := fun i d m H e s _ c => by
    obtain ⟨vs, h, r⟩ := s a _ c
    obtain ⟨v, h1, h2⟩ := r.get e
    refine ⟨⟨vs, v, SqL.of h, h1⟩, fun x H' ⟨e1, e2⟩ => ?_⟩
    subst e1
    have := e2 vs (SqL.of h)
    rw [h1] at this
    cases this
    exact ⟨h2, s, Step.refl _ _⟩
  stop := fun m H s _ c => by
    obtain ⟨vs, h, r⟩ := s a _ c
    exact ⟨vs, SqL.of h, Nat.le_of_eq r.length.symm⟩
theorem Step.tupAt {H H' : Hp} {m m' : Mem} (s : Step H m H' m') {a : Addr} {vs : List V} (h : H a = some (.tup vs)) : H' a = some (.tup vs) := s.ext.tup a vs h
theorem ItOk.tuple {K : PySem.W.Frag} {a : Addr} {vs : List V} {xs : List D} {H0 : Hp} {m0 : Mem} (h : H0 a = some (.tup vs)) (r : Reps K H0 xs vs) : ItOk K ⟨xs, fun _ => True⟩ (Itt K a) H0 m0 where
  go := fun i d m H e s st _ => by
    have h' := st.tupAt h
    have r' := r.mono st.ext
    obtain ⟨v, h1, h2⟩ := r'.get e
    refine ⟨⟨vs, v, SqT.of h', h1⟩, fun x H' ⟨e1, e2⟩ => ?_⟩
    subst e1
    have := e2 vs (SqT.of h')
    rw [h1] at this
    cases this
    exact ⟨h2, s, Step.refl _ _⟩
  stop := fun m H s st _ => ⟨vs, SqT.of (st.tupAt h), Nat.le_of_eq r.length.symm⟩
theorem ItOk.ftup {K : PySem.W.Frag} {a : Addr} {o : Obj} {vs : List V} {xs : List D} {H0 : Hp} {m0 : Mem} (h : H0 a = some (.frz o (.tup vs))) (r : Reps K H0 xs vs) : ItOk K ⟨xs, fun _ => True⟩ (Itt K a) H0 m0 := by
  have hh : ∀ {H : Hp} {m : Mem}, Step H0 m0 H m → SqT K H a vs := fun {H m} st => .inl (.inr ⟨o, st.ext.frz _ _ _ h⟩)
  exact {
    go := fun i d m H e s st _ => by
      obtain ⟨v, h1, h2⟩ := (r.mono st.ext).get e
      refine ⟨⟨vs, v, hh st, h1⟩, fun x H' ⟨e1, e2⟩ => ?_⟩
      subst e1
      have := e2 vs (hh st)
      rw [h1] at this
      cases this
      exact ⟨h2, s, Step.refl _ _⟩
    stop := fun m H s st _ => ⟨vs, hh st, Nat.le_of_eq r.length.symm⟩ }
theorem ItOk.rol {K : PySem.W.Frag} {a : Addr} {vs : List V} {xs : List D} {H0 : Hp} {m0 : Mem} (h : (∃ o, H0 a = some (.frz o (.lst vs))) ∨ (∃ (o : Obj) (its : Array Value) (n : Nat), K.lookup a = some o ∧ o.cls = .type "list" ∧ o.dict = none ∧ o.data = .seq its n ∧ its.size ≤ sizeLine ∧ Vals vs its.toList)) (r : Reps K H0 xs vs) : ItOk K ⟨xs, fun _ => True⟩ (Itl K a) H0 m0 := by
  have hh : ∀ {H : Hp} {m : Mem}, Step H0 m0 H m → SqL K H a vs := fun {H m} st => by
    rcases h with ⟨o, h⟩ | h
    · exact .inl (.inr ⟨o, st.ext.frz _ _ _ h⟩)
    · exact .inr h
  exact {
    go := fun i d m H e s st _ => by
      obtain ⟨v, h1, h2⟩ := (r.mono st.ext).get e
      refine ⟨⟨vs, v, hh st, h1⟩, fun x H' ⟨e1, e2⟩ => ?_⟩
      subst e1
      have := e2 vs (hh st)
      rw [h1] at this
      cases this
      exact ⟨h2, s, Step.refl _ _⟩
    stop := fun m H s st _ => ⟨vs, hh st, Nat.le_of_eq r.length.symm⟩ }
def iSeq (t : DTE) : DTI := fun ρ m q => t ρ m fun d m' => itOf m' d fun it => q it m'
theorem di_seq {e : Expr} {te : DTE} (h : DE B X e te) : DI B X tg e (iSeq te) :=
  pi_imp (pi_seq h) fun σ H R ⟨ρ, m, q, p, h, post⟩ => ⟨ρ, m, _, p, h, fun d m1 v H1 h1 r1 s1 t1 => by
    cases r1 with
    | tup e1 q1 => exact ⟨_, rfl, .inr ⟨⟨_, SqT.of e1⟩, post _ m1 _ H1 h1 (ItOk.tuple e1 q1) s1 t1⟩⟩
    | ftup e1 _ q1 => exact ⟨_, rfl, .inr ⟨⟨_, .inl (.inr ⟨_, e1⟩)⟩, post _ m1 _ H1 h1 (ItOk.ftup e1 q1) s1 t1⟩⟩
    | rol e1 q1 => exact ⟨_, rfl, .inl ⟨⟨_, rol_sq e1⟩, post _ m1 _ H1 h1 (ItOk.rol e1 q1) s1 t1⟩⟩
    | ref a =>
      unfold itOf at h1
      dsimp only at h1
      split at h1
      · rename_i xs ea
        obtain ⟨vs, hv, _⟩ := s1 a _ ea
        exact ⟨a, rfl, .inl ⟨⟨vs, SqL.of hv⟩, post _ m1 _ H1 h1 ItOk.list s1 t1⟩⟩
      · exact h1.elim
    | _ => exact (show False from h1).elim⟩
/-- over a list just made -/
def iNew (t : DTL) : DTI := fun ρ m q => t ρ m fun ds m' => q ⟨ds, fun _ => True⟩ m'
theorem di_new {e : Expr} {te : DTL} (h : DL B X e te) : DI B X tg e (iNew te) :=
  pi_imp (pi_list h) fun σ H R ⟨ρ, m, q, p, h, post⟩ => ⟨ρ, m, _, p, h, fun ds m' a vs H' hq ha hr hn h0 hs st => ⟨a, rfl, ⟨vs, SqL.of ha⟩, post _ m' _ H' hq (by
    have hh : ∀ {H : Hp} {m : Mem}, Step H' m' H m → H a = some (.lst vs) := fun {H m} st => st.keep a _ hn ha
    exact {
      go := fun i d m H e s st _ => by
        obtain ⟨v, h1, h2⟩ := (hr.mono st.ext).get e
        refine ⟨⟨vs, v, SqL.of (hh st), h1⟩, fun x H' ⟨e1, e2⟩ => ?_⟩
        subst e1
        have := e2 vs (SqL.of (hh st))
        rw [h1] at this
        cases this
        exact ⟨h2, s, Step.refl _ _⟩
      stop := fun m H s st _ => ⟨vs, SqL.of (hh st), Nat.le_of_eq hr.length.symm⟩ }) hs st⟩⟩
/-- lo, lo + 1, .. -/
def rngD (lo : Int) (n : Nat) : List D := (List.range n).map fun k => D.int (lo + (k : Nat))
theorem ItOk.rng {K : PySem.W.Frag} {lo : Int} {n : Nat} {H0 : Hp} {m0 : Mem} : ItOk K ⟨rngD lo n, fun _ => True⟩ (Itr lo n) H0 m0 where
  go := fun i d m H e s _ _ => by
    unfold rngD at e
    rw [List.getElem?_map] at e
    cases q : (List.range n)[i]? with
    | none => rw [q] at e; cases e
    | some k =>
      rw [q] at e
      cases e
      have hi : i < n := by
        have := (List.getElem?_eq_some_iff.mp q).1
        simpa using this
      have hk : k = i := by
        rw [List.getElem?_range hi] at q
        exact (Option.some.inj q).symm
      subst hk
      refine ⟨hi, fun x H' ⟨e1, e2⟩ => ?_⟩
      subst e1 e2
      exact ⟨.int _, s, Step.refl _ _⟩
  stop := fun m H s _ _ => by
    show n ≤ (rngD lo n).length
    unfold rngD
    simp
def iRange1 (ta : DTE) : DTI := fun ρ m q => ta ρ m fun d m' => match d with
  | .int j => -(2 ^ 62) ≤ j ∧ j < 2 ^ 62 ∧ q ⟨rngD 0 j.toNat, fun _ => True⟩ m'
  | _ => False
def iRange2 (ta tb : DTE) : DTI := fun ρ m q => ta ρ m fun d m1 => tb ρ m1 fun e m2 => match d, e with
  | .int i, .int j => (-(2 ^ 62) ≤ i ∧ i < 2 ^ 62 ∧ -(2 ^ 62) ≤ j ∧ j < 2 ^ 62) ∧ q ⟨rngD i (j - i).toNat, fun _ => True⟩ m2
  | _, _ => False
theorem di_range1 {a : Expr} {ta : DTE} {p pos : Pos} (hg : Gl X "range") (hm : X.mg "range" = none) (ha : DE B X a ta) (hs : starEach [a] X.env = [(false, eval a X.env)] := by rfl) : DI B X tg (.Call (.Name "range" p) [a] [] pos) (iRange1 ta) :=
  pi_imp (pi_range1 hg hm (da_cons ha da_nil hs) hs) fun σ H R ⟨ρ, m, q, p, h, post⟩ => ⟨ρ, m, fun ds m' => match ds with | [.int j] => -(2 ^ 62) ≤ j ∧ j < 2 ^ 62 ∧ q ⟨rngD 0 j.toNat, fun _ => True⟩ m' | _ => False, p, by
      unfold dCons dNil
      refine cast ?_ h
      unfold iRange1
      congr 1
      funext d m'
      cases d <;> rfl,
    fun ds m1 vs H1 h1 r1 s1 t1 => by
      dsimp only at h1
      split at h1
      · rename_i j
        obtain ⟨b1, b2, h1⟩ := h1
        cases r1 with
        | cons q1 q2 =>
          cases q2
          cases q1
          exact ⟨j, rfl, b1, b2, post _ m1 _ H1 h1 ItOk.rng s1 t1⟩
      · exact h1.elim⟩
def enumFrom (i : Nat) : List D → List D
  | [] => []
  | d :: r => .tup [.int (i : Nat), d] :: enumFrom (i + 1) r
theorem enumFrom_get : ∀ (xs : List D) (k i : Nat) (d : D), (enumFrom k xs)[i]? = some d → ∃ e, xs[i]? = some e ∧ d = .tup [.int ((k + i : Nat) : Int), e]
  | [], _, _, _, h => by simp [enumFrom] at h
  | x :: r, k, 0, d, h => by
    simp only [enumFrom, List.getElem?_cons_zero, Option.some.injEq] at h
    exact ⟨x, rfl, by rw [← h, Nat.add_zero]⟩
  | x :: r, k, i + 1, d, h => by
    simp only [enumFrom, List.getElem?_cons_succ] at h
    obtain ⟨e, h1, h2⟩ := enumFrom_get r (k + 1) i d h
    exact ⟨e, by simpa using h1, by rw [h2, show k + 1 + i = k + (i + 1) by omega]⟩
theorem enumFrom_length : ∀ (xs : List D) (k : Nat), (enumFrom k xs).length = xs.length
  | [], _ => rfl
  | _ :: r, k => by rw [enumFrom, List.length_cons, List.length_cons, enumFrom_length r]
def iEnumL (t : DTE) : DTI := fun ρ m q => t ρ m fun d m' => match d with
  | .ref a => match m' a with
    | some (.lst xs) => q ⟨enumFrom 0 xs, fun m'' => m'' a = some (.lst xs)⟩ m'
    | _ => False
  | _ => False
theorem ItOk.enumL {K : PySem.W.Frag} {a : Addr} {xs : List D} {H0 : Hp} {m0 : Mem} : ItOk K ⟨enumFrom 0 xs, fun m' => m' a = some (.lst xs)⟩ (Ite K a) H0 m0 where
  go := fun i d m H e s _ c => by
    obtain ⟨vs, h, r⟩ := s a _ c
    obtain ⟨e0, h0, hd⟩ := enumFrom_get xs 0 i d e
    obtain ⟨v, h1, h2⟩ := r.get h0
    refine ⟨⟨vs, v, SqL.of h, h1⟩, fun x H' ⟨T, z, e1, e2, e3, e4⟩ => ?_⟩
    subst e1 e3
    have := e4 vs (SqL.of h)
    rw [h1] at this
    cases this
    rw [hd, Nat.zero_add]
    exact ⟨.tup upd_same (.cons (.int _) (.cons (h2.mono (upd_new e2)) .nil)), s.alloc e2, Step.alloc e2⟩
  stop := fun m H s _ c => by
    obtain ⟨vs, h, r⟩ := s a _ c
    exact ⟨vs, SqL.of h, by rw [enumFrom_length]; exact Nat.le_of_eq r.length.symm⟩
end
end L2.Lh

namespace L2.Lh
open PySem PySem.Spec PyProof.Rows

/-! ### targets -/
theorem wipe_set : ∀ {vs : List Nat} {i : Nat} {σ : St} {x : Option V}, i ∈ vs → L2.wipe (σ.set i x) vs = L2.wipe σ vs
  | [], _, _, _, h => by cases h
  | v :: vs, i, σ, x, h => by
    unfold L2.wipe
    by_cases e : i ∈ vs
    · rw [wipe_set e]
    · have hv : i = v := by
        rcases List.mem_cons.mp h with h | h
        · exact h
        · exact absurd h e
      subst hv
      have gen : ∀ (ws : List Nat), i ∉ ws → L2.wipe (σ.set i x) ws = (L2.wipe σ ws).set i x := fun ws => by
        induction ws with
        | nil => intro _; rfl
        | cons w ws ih =>
          intro hn
          unfold L2.wipe
          rw [ih fun z => hn (List.mem_cons_of_mem _ z)]
          exact List.set_comm _ _ fun z => hn (by rw [z]; exact List.mem_cons_self)
      rw [gen vs e]
      simp
def gNm (i : Nat) : DTG := fun d ρ m q => q (ρ.set i (some d)) m
abbrev DTGs := List D → DEnv → Mem → (DEnv → Mem → Prop) → Prop
def upGs (K : PySem.W.Frag) (B : Bs) (vs : List Nat) (t : DTGs) : TGs := fun us σ H Q => ∃ ds ρ m q, Reps K H ds us ∧ Pre K B ρ m σ H ∧ t ds ρ m q ∧
  ∀ ρ' m' σ' H', q ρ' m' → RepEnv K H' ρ' σ' → L2.wipe σ' vs = L2.wipe σ vs → Sim K H' m' → Step H m H' m' → Q σ' H'
abbrev DGs (B : Bs) (X : Cx) (vs : List Nat) (es : List Expr) (t : DTGs) : Prop := PGs X es (upGs X.K B vs t)
def gNl : DTGs := fun ds ρ m q => match ds with | [] => q ρ m | _ => False
def gCn (t : DTG) (u : DTGs) : DTGs := fun ds ρ m q => match ds with | d :: r => t d ρ m fun ρ' m' => u r ρ' m' q | [] => False
def gTp (n : Nat) (t : DTGs) : DTG := fun d ρ m q => match d with | .tup xs => xs.length = n ∧ t xs ρ m q | _ => False
section
variable {X : Cx} {B : Bs} {pos : Pos} {vs : List Nat}
theorem dg_name {i : Nat} {x : Str} (hN : X.N.Nodup) (hi : X.N[i]? = some x := by rfl) (hx : Loc X.env.scope x := by first | exact Or.inl rfl | exact Or.inr rfl) (hf : X.fn x = true ∨ X.env.scope.names.lookup x = some .local := by first | exact .inl rfl | exact .inr rfl | assumption) (hv : i ∈ vs := by decide) : DG B X vs (.Name x pos) (gNm i) :=
  pg_imp (pg_name hN hi hx hf) fun v σ H Q ⟨d, ρ, m, q, r, p, h, post⟩ => post _ m _ H h (p.env.set r i) (wipe_set hv) p.sim (Step.refl _ _)
theorem dgs_nil : DGs B X vs [] gNl := ⟨fun pins s σ H us ws Q I r ⟨ds, ρ, m, q, rd, p, h, post⟩ => pgs_nil.run pins s σ H us ws Q I r (by
  cases ds with
  | nil => cases rd; exact ⟨rfl, post ρ m σ H h p.env rfl p.sim (Step.refl _ _)⟩
  | cons _ _ => exact h.elim)⟩
theorem dgs_cons {e : Expr} {es : List Expr} {t : DTG} {u : DTGs} (h1 : DG B X vs e t) (h2 : DGs B X vs es u)
    (hs : (assignEach (e :: es) X.env).map (·.2) = assign e X.env :: (assignEach es X.env).map (·.2) := by rfl) : DGs B X vs (e :: es) (gCn t u) :=
  ⟨fun pins s σ H us ws Q I r ⟨ds, ρ, m, q, rd, p, h, post⟩ => (pgs_cons h1 h2 hs).run pins s σ H us ws Q I r (by
    cases ds with
    | nil => exact h.elim
    | cons d ds =>
      cases rd with
      | cons r1 r2 =>
        exact ⟨_, _, rfl, d, ρ, m, _, r1, p, h, fun ρ' m' σ' H' hq env hw sim st => ⟨ds, ρ', m', q, r2.mono st.ext, ⟨env, sim, p.st.trans st⟩, hq, fun ρ2 m2 σ2 H2 hq2 env2 hw2 sim2 st2 => post ρ2 m2 σ2 H2 hq2 env2 (hw2.trans hw) sim2 (st.trans st2)⟩⟩)⟩
theorem dg_tup {es : List Expr} {k : Nat} {t : DTGs} {n : Nat} (hc : X.calm = true) (h : DGs B X vs es t)
    (hn : (assignEach es X.env).length = n := by rfl) (hst : (assignEach es X.env).findIdx? (·.1) = none := by rfl) : DG B X vs (.Tuple es k pos) (gTp n t) :=
  pg_imp (pg_tup hc h hn hst) fun v σ H Q ⟨d, ρ, m, q, r, p, h, post⟩ => by
    cases d with
    | tup xs =>
      obtain ⟨hl, h⟩ := h
      cases r with
      | tup h1 q1 => exact ⟨_, _, rfl, SqT.of h1, by rw [← q1.length]; exact hl, xs, ρ, m, q, q1, p, h, post⟩
    | _ => exact (show False from h).elim
end

/-! ### statements -/
def dNext : DTS := fun E ρ m => E.nx ρ m
def dSeq (t u : DTS) : DTS := fun E ρ m => t { E with nx := u E } ρ m
def dCnt : DTS := fun E ρ m => E.ct ρ m
def dDrop (te : DTE) : DTS := fun E ρ m => te ρ m fun _ m1 => E.nx ρ m1
def dRet (te : DTE) : DTS := fun E ρ m => te ρ m E.rt
def dRetN : DTS := fun E _ m => E.rt .non m
def dIfS (c : DTT) (t u : DTS) : DTS := fun E ρ m => c ρ m fun b m1 => if b = true then t E ρ m1 else u E ρ m1
def dAsg (te : DTE) (g : DTG) : DTS := fun E ρ m => te ρ m fun d m1 => g d ρ m1 E.nx
def dAug (i : Nat) (te : DTE) (r : DR2) : DTS := fun E ρ m => match ρ[i]? with
  | some (some d) => te ρ m fun e m1 => r d e m1 fun z m2 => E.nx (ρ.set i (some z)) m2
  | _ => False
/-- o[i] = v of a list -/
def setD (o i d : D) (m : Mem) (q : Mem → Prop) : Prop := match o, i with
  | .ref a, .int k => match m a with
    | some (.lst xs) => match ixN xs.length k with
      | some j => q (m.set a (.lst (xs.set j d)))
      | none => False
    | _ => False
  | _, _ => False
def dSetIx (te to ti : DTE) : DTS := fun E ρ m => te ρ m fun d m1 => to ρ m1 fun o m2 => ti ρ m2 fun i m3 => setD o i d m3 fun m4 => E.nx ρ m4
def dAugIx (to ti te : DTE) (r : DR2) : DTS := fun E ρ m => to ρ m fun o m1 => ti ρ m1 fun i m2 => ixD o i m2 fun d m3 => te ρ m3 fun e m4 => r d e m4 fun z m5 => setD o i z m5 fun m6 => E.nx ρ m6
section
variable {X : Cx} {B : Bs} {st : Stmt} {rest : List Stmt} {t u : DTS} {e : Expr} {te : DTE} {pos : Pos}
theorem dss_nil : DSs B X [] dNext := pss_imp pss_nil fun F σ H ⟨ρ, m, E, p, h, o⟩ => o.nx ρ m σ H h p.env p.sim (Step.refl _ _)
theorem dss_cons (h1 : DS B X st t) (h2 : DSs B X rest u) : DSs B X (st :: rest) (dSeq t u) :=
  pss_imp (pss_cons h1 h2) fun F σ H ⟨ρ, m, E, p, h, o⟩ => ⟨ρ, m, { E with nx := u E }, p, h, ⟨fun ρ' m' σ' H' hq env sim st => ⟨ρ', m', E, ⟨env, sim, p.st.trans st⟩, hq, o.next st⟩, o.rt, o.bk, o.ct⟩⟩
theorem dss_one (h1 : DS B X st t) : DSs B X [st] t := pss_one h1
theorem ds_continue : DS B X (.Continue pos) dCnt := ps_imp ps_continue fun F σ H ⟨ρ, m, E, p, h, o⟩ => o.ct ρ m σ H h p.env p.sim (Step.refl _ _)
theorem ds_expr (he : DE B X e te) (hs : swapsWith e none pos.line X.env = pure false := by rfl) : DS B X (.Expr e pos) (dDrop te) :=
  ps_imp (ps_expr he hs) fun F σ H ⟨ρ, m, E, p, h, o⟩ => ⟨ρ, m, _, p, h, fun d m1 v H1 h1 r1 s1 t1 => o.nx ρ m1 σ H1 h1 (p.env.mono t1.ext) s1 t1⟩
theorem ds_ret (he : DE B X e te) : DS B X (.Return (some e) pos) (dRet te) :=
  ps_imp (ps_ret he) fun F σ H ⟨ρ, m, E, p, h, o⟩ => ⟨ρ, m, _, p, h, fun d m1 v H1 h1 r1 s1 t1 => o.rt d m1 v H1 h1 r1 s1 t1⟩
theorem ds_if {c : Expr} {a b : List Stmt} {tc : DTT} (hc : DT B X c tc) (ha : DSs B X a t) (hb : DSs B X b u) : DS B X (.If c a b pos) (dIfS tc t u) :=
  ps_imp (ps_if hc ha hb) fun F σ H ⟨ρ, m, E, p, h, o⟩ => ⟨ρ, m, _, p, h, fun b m1 H1 h1 s1 t1 => by
    cases b with
    | true => exact ⟨ρ, m1, E, p.next s1 t1, h1, o.next t1⟩
    | false => exact ⟨ρ, m1, E, p.next s1 t1, h1, o.next t1⟩⟩
theorem asg_lift {K : PySem.W.Frag} {vs : List Nat} {g : DTG} : ∀ F σ H, upS K B (dAsg te g) F σ H → tAsg (upE K B te) (upG K B vs g) F σ H :=
  fun F σ H ⟨ρ, m, E, p, h, o⟩ => ⟨ρ, m, _, p, h, fun d m1 v H1 h1 r1 s1 t1 => ⟨d, ρ, m1, _, r1, p.next s1 t1, h1, fun ρ' m' σ' H' hq env _ sim st => o.nx ρ' m' σ' H' hq env sim (t1.trans st)⟩⟩
theorem ds_asg {tg : Expr} {vs : List Nat} {g : DTG} (he : DE B X e te) (hg : DG B X vs tg g) (hs : swapsWithSole [tg] e pos.line X.env = pure false := by rfl) (hw : swappedStores [tg] e X.env = pure none := by rfl)
    (h1 : (assignEach [tg] X.env).map (·.2) = [assign tg X.env] := by rfl) : DS B X (.Assign [tg] e pos) (dAsg te g) := ps_imp (ps_asg he hg hs hw h1) asg_lift
theorem ds_set {i : Nat} {x : Str} {pos' : Pos} (hN : X.N.Nodup) (he : DE B X e te) (hi : X.N[i]? = some x := by rfl) (hx : Loc X.env.scope x := by first | exact Or.inl rfl | exact Or.inr rfl) (hs : swapsWith e (some (.Name x pos')) pos.line X.env = pure false := by rfl) (hf : X.fn x = true ∨ X.env.scope.names.lookup x = some .local := by first | exact .inl rfl | exact .inr rfl | assumption) :
    DS B X (.Assign [.Name x pos'] e pos) (dAsg te (gNm i)) :=
  ps_imp (ps_set hN hi hx he hs hf) fun F σ H ⟨ρ, m, E, p, h, o⟩ => ⟨ρ, m, _, p, h, fun d m1 v H1 h1 r1 s1 t1 => o.nx _ m1 _ H1 h1 ((p.env.mono t1.ext).set r1 i) s1 t1⟩
theorem ds_aug {i : Nat} {x : Str} {op : Operator} {r : DR2} {pos' : Pos} (hN : X.N.Nodup) (he : DE B X e te) (ho : OpD X (inplaceOp op) r) (hi : X.N[i]? = some x := by rfl) (hx : Loc X.env.scope x := by first | exact Or.inl rfl | exact Or.inr rfl) (hf : X.fn x = true ∨ X.env.scope.names.lookup x = some .local := by first | exact .inl rfl | exact .inr rfl | assumption) :
    DS B X (.AugAssign (.Name x pos') op e pos) (dAug i te r) :=
  ps_imp (ps_aug hN hi hx he ho hf) fun F σ H ⟨ρ, m, E, p, h, o⟩ => by
    unfold dAug at h
    split at h
    · rename_i d ed
      obtain ⟨v, e1, r1⟩ := p.env.get ed
      exact ⟨v, e1, ρ, m, _, p, h, fun d2 m1 v2 H1 h1 r2 s1 t1 => ⟨d, d2, m1, _, r1.mono t1.ext, r2, s1, h1, fun z m2 w H2 h2 r3 s2 t2 => o.nx _ m2 _ H2 h2 ((p.env.mono (t1.trans t2).ext).set r3 i) s2 (t1.trans t2)⟩⟩
    · exact h.elim
theorem setD_ok {K : PySem.W.Frag} {H : Hp} {m : Mem} {o i d : D} {vo vi vd : V} {q : Mem → Prop} {Q : Hp → Prop} (sim : Sim K H m) (ro : Rep K H o vo) (ri : Rep K H i vi) (rd : Rep K H d vd) (h : setD o i d m q)
    (post : ∀ m' H', q m' → Sim K H' m' → Step H m H' m' → Q H') : rSetL vo vi vd H Q := by
  unfold setD at h
  split at h
  · rename_i a k
    split at h
    · rename_i xs ea
      split at h
      · rename_i j ej
        obtain ⟨vs, hv, rs⟩ := sim a _ ea
        cases ro; cases ri
        exact ⟨a, vs, k, j, rfl, rfl, hv, by rw [← rs.length]; exact ej, post _ _ h (sim.write ea ⟨_, upd_same, ((rs.set rd j).mono (upd_old sim ea))⟩) (Step.write sim ea)⟩
      · exact h.elim
    · exact h.elim
  · exact h.elim
theorem ds_setIx {oe ie : Expr} {to ti : DTE} {tpos : Pos} (he : DE B X e te) (ho : DE B X oe to) (hi : DE B X ie ti) (hs : swapsWithSole [.Subscript oe ie tpos] e pos.line X.env = pure false := by rfl) (hw : swappedStores [.Subscript oe ie tpos] e X.env = pure none := by rfl)
    (h1 : (assignEach [.Subscript oe ie tpos] X.env).map (·.2) = [assign (.Subscript oe ie tpos) X.env] := by rfl)
    (ha : ∀ v, assign (.Subscript oe ie tpos) X.env v = (do
      let ov ← holding [v] (eval oe X.env)
      let iv ← holding [v, ov] (eval ie X.env)
      standAt tpos
      holding [v, ov, iv] (setItem ov iv v)
      release [v, ov, iv] []) := by intro _; rfl) : DS B X (.Assign [.Subscript oe ie tpos] e pos) (dSetIx te to ti) :=
  ps_imp (ps_asg he (pg_sub ho hi set_list ha) hs hw h1) fun F σ H ⟨ρ, m, E, p, h, o⟩ => ⟨ρ, m, _, p, h, fun d m1 v H1 h1 r1 s1 t1 => ⟨ρ, m1, _, p.next s1 t1, h1, fun d2 m2 v2 H2 h2 r2 s2 t2 =>
    ⟨ρ, m2, _, (p.next s1 t1).next s2 t2, h2, fun d3 m3 v3 H3 h3 r3 s3 t3 => setD_ok s3 (r2.mono t3.ext) r3 (r1.mono (t2.trans t3).ext) h3 fun m4 H4 h4 s4 t4 =>
      o.nx ρ m4 σ H4 h4 (p.env.mono (t1.trans (t2.trans (t3.trans t4))).ext) s4 (t1.trans (t2.trans (t3.trans t4)))⟩⟩⟩
/-! ### loops -/
/-- between two turns what is not asked any more may be forgotten -/
def dn (N : DEnv → Mem → Prop) : DEnv → Mem → Prop := fun ρ m => ∃ m' : Mem, m'.le m ∧ N ρ m'
def forR (chk : Mem → Prop) (g : DTG) (tb : DTS) (E : DEnds) : List D → DEnv → Mem → Prop
  | [], ρ, m => chk m ∧ E.nx ρ m
  | d :: r, ρ, m => chk m ∧ g d ρ m fun ρ2 m2 => tb { E with nx := dn (forR chk g tb E r), ct := dn (forR chk g tb E r), bk := E.nx } ρ2 m2
def dFor (wi : DTI) (g : DTG) (tb : DTS) : DTS := fun E ρ m => wi ρ m fun it m1 => forR it.chk g tb E it.items ρ m1
theorem ds_for {tg iter : Expr} {body : List Stmt} {vs : List Nat} {wi : DTI} {g : DTG} {tb : DTS} (hp : PassesOwn (model X.prog X.w) X.A X.env X.xe) (hc : X.calm = true) (hi : DI B X tg iter wi) (hg : DG B X vs tg g) (hb : DSs B X body tb)
    (hs : ∀ x, foldedSetIterable iter X.env x = pure x := by intro _; rfl) : DS B X (.For tg iter body [] pos) (dFor wi g tb) :=
  ps_imp (ps_for hp hc hi hg hb hs) fun F σ H ⟨ρ, m, E, p, h, o⟩ => ⟨ρ, m, _, p, h, fun it m1 J H1 h1 ok s1 t1 => by
    refine ⟨fun i n σ' H' => n = it.items.length - i ∧ i ≤ it.items.length ∧ ∃ ρ' m', RepEnv X.K H' ρ' σ' ∧ Sim X.K H' m' ∧ Step H1 m1 H' m' ∧ forR it.chk g tb E (it.items.drop i) ρ' m', ⟨_, rfl, Nat.zero_le _, ρ, m1, p.env.mono t1.ext, s1, Step.refl _ _, h1⟩, ?_⟩
    rintro i n σ' H' ⟨rfl, hi, ρ', m', env, sim, st, hr⟩
    have o1 : EndsOk X.K H' m' E F := o.next (t1.trans st)
    by_cases hlt : i < it.items.length
    · obtain ⟨d, hd⟩ : ∃ d, it.items[i]? = some d := ⟨_, List.getElem?_eq_getElem hlt⟩
      have hdr : it.items.drop i = d :: it.items.drop (i + 1) := by
        rw [List.drop_eq_getElem_cons hlt]
        congr 1
        rw [List.getElem?_eq_getElem hlt] at hd
        exact Option.some.inj hd
      rw [hdr] at hr
      obtain ⟨ck, hr⟩ := hr
      obtain ⟨go, yl⟩ := ok.go i d m' H' hd sim st ck
      refine .inr ⟨go, fun σ2 H2 => ∃ ρ2 m2, RepEnv X.K H2 ρ2 σ2 ∧ Sim X.K H2 m2 ∧ Step H' m' H2 m2 ∧ forR it.chk g tb E (it.items.drop (i + 1)) ρ2 m2, fun σ2 H2 ⟨ρ2, m2, e2, s2, t2, f2⟩ => ⟨it.items.length - (i + 1), by omega, rfl, hlt, ρ2, m2, e2, s2, st.trans t2, f2⟩, fun x Hx hx => ?_⟩
      obtain ⟨rx, sx, tx⟩ := yl x Hx hx
      refine ⟨d, ρ', m', _, rx, ⟨env.mono tx.ext, sx, (p.st.trans t1).trans (st.trans tx)⟩, hr, fun ρ3 m3 σ3 H3 h3 e3 _ s3 t3 => ?_⟩
      have nxt : ∀ ρ4 m4 σ4 H4, dn (forR it.chk g tb E (it.items.drop (i + 1))) ρ4 m4 → RepEnv X.K H4 ρ4 σ4 → Sim X.K H4 m4 → Step H3 m3 H4 m4 → ∃ ρ2 m2, RepEnv X.K H4 ρ2 σ4 ∧ Sim X.K H4 m2 ∧ Step H' m' H4 m2 ∧ forR it.chk g tb E (it.items.drop (i + 1)) ρ2 m2 := fun ρ4 m4 σ4 H4 ⟨m5, hle, f5⟩ e4 s4 t4 =>
        ⟨ρ4, m5, e4, s4.forget hle, ((tx.trans t3).trans t4).forget hle, f5⟩
      exact ⟨ρ3, m3, _, ⟨e3, s3, (p.st.trans t1).trans ((st.trans tx).trans t3)⟩, h3, ⟨nxt, (o1.next (tx.trans t3)).rt, (o1.next (tx.trans t3)).nx, nxt⟩⟩
    · have e : i = it.items.length := by omega
      subst e
      rw [List.drop_length] at hr
      exact .inl ⟨ok.stop m' H' sim st hr.1, o1.nx ρ' m' σ' H' hr.2 env sim (Step.refl _ _)⟩⟩
def dWhile (c : DTT) (tb : DTS) : DTS := fun E ρ m => ∃ W : Nat → DEnv → Mem → Prop, (∃ n, W n ρ m) ∧ ∀ n ρ m, W n ρ m →
  c ρ m fun b m1 => if b = true then tb { E with nx := dn fun ρ' m' => ∃ n', n' < n ∧ W n' ρ' m', ct := dn fun ρ' m' => ∃ n', n' < n ∧ W n' ρ' m', bk := E.nx } ρ m1 else E.nx ρ m1
theorem ds_while {c : Expr} {body : List Stmt} {tc : DTT} {tb : DTS} (hp : PassesOwn (model X.prog X.w) X.A X.env X.xe) (hc : DT B X c tc) (hb : DSs B X body tb) : DS B X (.While c body [] pos) (dWhile tc tb) :=
  ps_imp (ps_while hp hc hb) fun F σ H ⟨ρ, m, E, p, ⟨W, ⟨n0, w0⟩, turn⟩, o⟩ => by
    refine ⟨fun n σ' H' => ∃ ρ' m', RepEnv X.K H' ρ' σ' ∧ Sim X.K H' m' ∧ Step H m H' m' ∧ W n ρ' m', ⟨n0, ρ, m, p.env, p.sim, Step.refl _ _, w0⟩, ?_⟩
    rintro n σ' H' ⟨ρ', m', env, sim, st, hw⟩
    refine ⟨ρ', m', _, ⟨env, sim, p.st.trans st⟩, turn n ρ' m' hw, fun b m1 H1 h1 s1 t1 => ?_⟩
    have o1 : EndsOk X.K H1 m1 E F := o.next (st.trans t1)
    cases b with
    | false => exact o1.nx ρ' m1 σ' H1 h1 (env.mono t1.ext) s1 (Step.refl _ _)
    | true =>
      refine ⟨fun σ2 H2 => ∃ n', n' < n ∧ ∃ ρ2 m2, RepEnv X.K H2 ρ2 σ2 ∧ Sim X.K H2 m2 ∧ Step H m H2 m2 ∧ W n' ρ2 m2, fun σ2 H2 ⟨n', hn, q⟩ => ⟨n', hn, q⟩, ?_⟩
      have nxt : ∀ ρ4 m4 σ4 H4, (dn fun ρ' m' => ∃ n', n' < n ∧ W n' ρ' m') ρ4 m4 → RepEnv X.K H4 ρ4 σ4 → Sim X.K H4 m4 → Step H1 m1 H4 m4 → ∃ n', n' < n ∧ ∃ ρ2 m2, RepEnv X.K H4 ρ2 σ4 ∧ Sim X.K H4 m2 ∧ Step H m H4 m2 ∧ W n' ρ2 m2 := fun ρ4 m4 σ4 H4 ⟨m5, hle, n', hn, f5⟩ e4 s4 t4 =>
        ⟨n', hn, ρ4, m5, e4, s4.forget hle, ((st.trans t1).trans t4).forget hle, f5⟩
      exact ⟨ρ', m1, _, ⟨env.mono t1.ext, s1, (p.st.trans st).trans t1⟩, h1, ⟨nxt, o1.rt, o1.nx, nxt⟩⟩
end

/-! ### comprehensions -/
def compR (chk : Mem → Prop) (g : DTG) (tt : DTT) (te : DTE) (ρ : DEnv) (q : List D → Mem → Prop) : List D → List D → Mem → Prop
  | [], acc, m => chk m ∧ q acc m
  | d :: r, acc, m => chk m ∧ g d ρ m fun ρ2 m2 => tt ρ2 m2 fun b m3 => if b = true then te ρ2 m3 fun y m4 => acc.length < sizeLine ∧ compR chk g tt te ρ q r (acc ++ [y]) m4 else compR chk g tt te ρ q r acc m3
def dComp (wi : DTI) (g : DTG) (tt : DTT) (te : DTE) (vs : List Nat) : DTL := fun ρ m q => wi ρ m fun it m1 => compR it.chk g tt te (wipeD ρ vs) q it.items [] m1
def dYes : DTT := fun _ m q => q true m
section
variable {X : Cx} {B : Bs}
abbrev DTs (B : Bs) (X : Cx) (ifs : List Expr) (t : DTT) : Prop := PTs X ifs (upT X.K B t)
theorem dts_nil : DTs B X [] dYes := ⟨fun pins s σ H Q I ⟨ρ, m, q, p, h, post⟩ => pts_nil.run pins s σ H Q I (post true m H h p.sim (Step.refl _ _))⟩
theorem dts_one {c : Expr} {t : DTT} (h : DT B X c t) : DTs B X [c] t := pts_one h
theorem lc_lift {K : PySem.W.Frag} {wi : DTI} {g : DTG} {tt : DTT} {te : DTE} {vs : List Nat} : ∀ σ H Q, upL K B (dComp wi g tt te vs) σ H Q → tLc (upI K B wi) (upG K B vs g) (upT K B tt) (upE K B te) vs σ H Q :=
  fun σ H Q ⟨ρ, m, q, p, h, post⟩ => ⟨ρ, m, _, p, h, fun it m1 J H1 h1 ok s1 t1 L hL => by
    have mL : m1 L = none := s1.free hL
    refine ⟨fun i n H' => n = it.items.length - i ∧ i ≤ it.items.length ∧ ∃ acc vacc m', H' L = some (.lst vacc) ∧ Reps K H' acc vacc ∧ m' L = none ∧ Sim K H' m' ∧ Step H1 m1 H' m' ∧ compR it.chk g tt te (wipeD ρ vs) q (it.items.drop i) acc m',
      ⟨_, rfl, Nat.zero_le _, [], [], m1, upd_same, .nil, mL, s1.alloc hL, Step.alloc hL, h1⟩, ?_⟩
    rintro i n H' ⟨rfl, hi, acc, vacc, m', eL, ra, mL', sim, st, hr⟩
    by_cases hlt : i < it.items.length
    · obtain ⟨d, hd⟩ : ∃ d, it.items[i]? = some d := ⟨_, List.getElem?_eq_getElem hlt⟩
      have hdr : it.items.drop i = d :: it.items.drop (i + 1) := by
        rw [List.drop_eq_getElem_cons hlt]
        congr 1
        rw [List.getElem?_eq_getElem hlt] at hd
        exact Option.some.inj hd
      rw [hdr] at hr
      obtain ⟨ck, hr⟩ := hr
      obtain ⟨go, yl⟩ := ok.go i d m' H' hd sim st ck
      refine .inr ⟨go, fun H2 => ∃ acc vacc m2, H2 L = some (.lst vacc) ∧ Reps K H2 acc vacc ∧ m2 L = none ∧ Sim K H2 m2 ∧ Step H1 m1 H2 m2 ∧ compR it.chk g tt te (wipeD ρ vs) q (it.items.drop (i + 1)) acc m2,
        fun H2 q2 => ⟨it.items.length - (i + 1), by omega, rfl, hlt, q2⟩, fun x Hx hx => ?_⟩
      obtain ⟨rx, sx, tx⟩ := yl x Hx hx
      have env0 : RepEnv K H1 ρ σ := p.env.mono t1.ext
      have px : Pre K B (wipeD ρ vs) m' (L2.wipe σ vs) Hx := ⟨(env0.mono (st.trans tx).ext).wipe vs, sx, (p.st.trans t1).trans (st.trans tx)⟩
      refine ⟨d, wipeD ρ vs, m', _, rx, px, hr, fun ρ2 m2 σ2 H2 h2 e2 w2 s2 t2 => ⟨?_, ?_⟩⟩
      · rw [w2]
        have gen : ∀ (ws : List Nat) (σ : St), L2.wipe (L2.wipe σ ws) ws = L2.wipe σ ws := fun ws σ => by
          apply List.ext_getElem?
          intro j
          by_cases hj : j ∈ ws
          · have none_at : ∀ (ws : List Nat) (σ : St), j ∈ ws → (L2.wipe σ ws)[j]? = if j < σ.length then some none else none := fun ws => by
              induction ws with
              | nil => intro σ h; cases h
              | cons w ws ih =>
                intro σ h
                unfold L2.wipe
                by_cases hw : w = j
                · subst hw
                  by_cases hl : w < σ.length
                  · rw [List.getElem?_set_self (by rw [wipe_length]; exact hl), if_pos hl]
                  · rw [if_neg hl, List.getElem?_eq_none (by rw [List.length_set, wipe_length]; omega)]
                · rw [List.getElem?_set_ne hw]
                  exact ih σ ((List.mem_cons.mp h).resolve_left fun z => hw z.symm)
            rw [none_at ws _ hj, none_at ws _ hj, wipe_length]
          · rw [wipe_out hj]
        exact gen vs σ
      · have p2 : Pre K B ρ2 m2 σ2 H2 := ⟨e2, s2, px.st.trans t2⟩
        refine ⟨ρ2, m2, _, p2, h2, fun b m3 H3 h3 s3 t3 => ?_⟩
        have tt3 : Step H' m' H3 m3 := (tx.trans t2).trans t3
        have k3 : H3 L = some (.lst vacc) := tt3.keep L _ mL' eL
        have n3 : m3 L = none := tt3.new L _ mL' eL
        cases b with
        | false => exact ⟨acc, vacc, m3, k3, ra.mono tt3.ext, n3, s3, st.trans tt3, h3⟩
        | true =>
          refine ⟨ρ2, m3, _, p2.next s3 t3, h3, fun y m4 vy H4 ⟨hz, h4⟩ r4 s4 t4 => ?_⟩
          have k4 : H4 L = some (.lst vacc) := t4.keep L _ n3 k3
          have n4 : m4 L = none := t4.new L _ n3 k3
          have ra4 : Reps K H4 acc vacc := ra.mono (tt3.trans t4).ext
          have ex : Ext H4 (upd H4 L (.lst (vacc ++ [vy]))) := ⟨fun b xs e => by rw [upd_ne (fun z => by subst z; rw [k4] at e; cases e)]; exact e, fun b ob u e => by rw [upd_ne (fun z => by subst z; rw [k4] at e; cases e)]; exact e, fun b q e => by rw [upd_ne (fun z => by subst z; rw [k4] at e; unfold LamX.CodeO at e; cases e)]; exact e⟩
          refine ⟨vacc, k4, by rw [← ra4.length]; exact hz, acc ++ [y], vacc ++ [vy], m4, upd_same, (ra4.append (.cons r4 .nil)).mono ex, n4, ?_, ?_, h4⟩
          · intro a o ea
            have na : a ≠ L := fun z => by subst z; rw [n4] at ea; cases ea
            exact (s4 a o ea).mono ex fun u hu => by rw [upd_ne na]; exact hu
          · have base : Step H1 m1 H4 m4 := st.trans (tt3.trans t4)
            exact ⟨base.ext.trans ex, fun b hb => base.dom b (by
              by_cases z : b = L
              · subst z; rw [upd_same] at hb; cases hb
              · rw [upd_ne z] at hb; exact hb), fun b ob hn hb => by
                rw [upd_ne (fun z => by subst z; rw [hL] at hb; cases hb)]
                exact base.keep b ob hn hb, base.new⟩
    · have e : i = it.items.length := by omega
      subst e
      rw [List.drop_length] at hr
      exact .inl ⟨ok.stop m' H' sim st hr.1, post acc m' L vacc H' hr.2 eL ra mL' (t1.dom L hL) sim (t1.trans st)⟩⟩
theorem dl_comp {elt tg iter : Expr} {ifs : List Expr} {scope : Scope} {pos : Pos} {wi : DTI} {g : DTG} {tt : DTT} {te : DTE} (own : List (Str × Nat)) (hc : X.calm = true) (hN : X.N.Nodup) (hi : DI B X tg iter wi) (ok : BlkOk X.N X.env.scope scope own)
    (hg : ∀ (s : Shared) (H : Hp) (C : Addr) (cl : List (Str × Addr)) (fp : List Addr), DG B (X.blk s H scope (compEnvC scope cl C X.env) fp) (own.map (·.2)) tg g) (ht : ∀ (s : Shared) (H : Hp) (C : Addr) (cl : List (Str × Addr)) (fp : List Addr), DTs B (X.blk s H scope (compEnvC scope cl C X.env) fp) ifs tt)
    (he : ∀ (s : Shared) (H : Hp) (C : Addr) (cl : List (Str × Addr)) (fp : List Addr), DE B (X.blk s H scope (compEnvC scope cl C X.env) fp) elt te) (hs : ∀ x, foldedSetIterable iter X.env x = pure x := by intro _; rfl) :
    DL B X (.ListComp elt [⟨tg, iter, ifs, 0⟩] scope pos) (dComp wi g tt te (own.map (·.2))) := pe_imp (pe_lc hc hN hi ok hg ht he hs) lc_lift
theorem ds_setLc {i : Nat} {y : Str} {py : Pos} {elt tg iter : Expr} {ifs : List Expr} {scope : Scope} {pos spos : Pos} {wi : DTI} {g : DTG} {tt : DTT} {te : DTE} (own : List (Str × Nat)) (hc : X.calm = true) (hN : X.N.Nodup) (hy : X.N[i]? = some y) (hyl : X.env.scope.names.lookup y = some .local)
    (hsw : swapsWith (.ListComp elt [⟨tg, iter, ifs, 0⟩] scope pos) (some (.Name y py)) spos.line X.env = pure true) (hi : DI B X tg iter wi) (ok : BlkOk X.N X.env.scope scope own)
    (hg : ∀ (s : Shared) (H : Hp) (C : Addr) (cl : List (Str × Addr)) (fp : List Addr), DG B (X.blk s H scope (compEnvC scope cl C X.env) fp) (own.map (·.2)) tg g) (ht : ∀ (s : Shared) (H : Hp) (C : Addr) (cl : List (Str × Addr)) (fp : List Addr), DTs B (X.blk s H scope (compEnvC scope cl C X.env) fp) ifs tt)
    (he : ∀ (s : Shared) (H : Hp) (C : Addr) (cl : List (Str × Addr)) (fp : List Addr), DE B (X.blk s H scope (compEnvC scope cl C X.env) fp) elt te) (hs : ∀ x, foldedSetIterable iter X.env x = pure x := by intro _; rfl) :
    DS B X (.Assign [.Name y py] (.ListComp elt [⟨tg, iter, ifs, 0⟩] scope pos) spos) (dAsg (fun ρ m q => dComp wi g tt te (own.map (·.2)) ρ m fun ds m' => ∀ a, m' a = none → q (.ref a) (m'.set a (.lst ds))) (gNm i)) :=
  ps_imp (ps_setLc hc hN hy hyl hsw hi ok hg ht he hs) fun F σ H ⟨ρ, m, E, p, h, o⟩ => lc_lift σ H _ ⟨ρ, m, _, p, h, fun ds m' a vs H' hq ha hr hn h0 hs st => by
    have sim' : Sim X.K H' (m'.set a (.lst ds)) := fun b ob e => by
      by_cases z : b = a
      · subst z; rw [Mem.set_same] at e; cases e; exact ⟨vs, ha, hr⟩
      · rw [Mem.set_ne z] at e; exact hs b ob e
    have st' : Step H m H' (m'.set a (.lst ds)) := ⟨st.ext, st.dom, st.keep, fun b ob n e => by rw [Mem.set_ne (fun z => by rw [z, h0] at e; cases e)]; exact st.new b ob n e⟩
    exact o.nx _ _ _ H' (hq a hn) ((p.env.mono st.ext).set (.ref a) i) sim' st'⟩
end
end L2.Lh

namespace L2.Lh
open PySem PySem.Spec PyProof.Rows

/-! ### calls of built-ins -/
section
variable {X : Cx} {B : Bs} {e : Expr} {es : List Expr} {te : DTE} {t : DTA} {tl : DTL} {pos p : Pos} {x : Str} {id T : String} {r : DRC}
theorem cb_lift {K : PySem.W.Frag} : ∀ σ H Q, upE K B (dCB r t) σ H Q → tCB (upC K r) (upA K B t) σ H Q :=
  fun σ H Q ⟨ρ, m, q, p, h, post⟩ => ⟨ρ, m, _, p, h, fun ds m1 vs H1 h1 r1 s1 t1 => ⟨ds, m1, q, r1, s1, h1, fun d2 m2 v2 H2 h2 r2 s2 t2 => post d2 m2 v2 H2 h2 r2 s2 (t1.trans t2)⟩⟩
theorem de_callB (hc : CallD X (.builtin id) r) (hg : Gl X x) (hm : X.mg x = none) (hv : bootBuiltins x = some (.builtin id)) (ha : DA B X (e :: es) t) (hn : x ≠ "__name__" := by decide) (hdb : (x == ("__debug__" : Str)) = false := by decide)
    (he : starEach (e :: es) X.env = (false, eval e X.env) :: starEach es X.env := by rfl) (hpl : (backTo pos (starEach es X.env)).any (·.1) = false := by rfl) : DE B X (.Call (.Name x p) (e :: es) [] pos) (dCB r t) :=
  pe_imp (pe_callB hc hg hm hv ha hn hdb he hpl) cb_lift
theorem de_callTy (hc : CallD X (.type T) r) (hg : Gl X x) (hm : X.mg x = none) (hv : bootBuiltins x = some (.type T)) (ha : DA B X (e :: es) t) (hn : x ≠ "__name__" := by decide) (hdb : (x == ("__debug__" : Str)) = false := by decide)
    (he : starEach (e :: es) X.env = (false, eval e X.env) :: starEach es X.env := by rfl) (hpl : (backTo pos (starEach es X.env)).any (·.1) = false := by rfl) : DE B X (.Call (.Name x p) (e :: es) [] pos) (dCB r t) :=
  pe_imp (pe_callTy hc hg hm hv ha hn hdb he hpl) cb_lift
/-- .. of a list just made -/
def upN (K : PySem.W.Frag) (r : DRC) : List V → Hp → VK → Prop := fun xs H Q => ∃ a ds vs m q, xs = [.ref a] ∧ H a = some (.lst vs) ∧ Reps K H ds vs ∧ m a = none ∧ Sim K H m ∧ r ds m q ∧ PostE K H m q Q
abbrev CallN (X : Cx) (f : Value) (r : DRC) : Prop := CallR X f (upN X.K r)
def dCN (r : DRC) (t : DTL) : DTE := fun ρ m q => t ρ m fun ds m1 => r ds m1 q
theorem cn_lift {K : PySem.W.Frag} : ∀ σ H Q, upE K B (dCN r tl) σ H Q → tCB (upN K r) (tCons (upL K B tl) tNil) σ H Q :=
  fun σ H Q ⟨ρ, m, q, p, h, post⟩ => ⟨ρ, m, _, p, h, fun ds m1 a vs H1 h1 ha r1 hn _ s1 t1 => ⟨a, ds, vs, m1, q, rfl, ha, r1, hn, s1, h1, fun d2 m2 v2 H2 h2 r2 s2 t2 => post d2 m2 v2 H2 h2 r2 s2 (t1.trans t2)⟩⟩
theorem de_newB (hc : CallN X (.builtin id) r) (hg : Gl X x) (hm : X.mg x = none) (hv : bootBuiltins x = some (.builtin id)) (ha : DL B X e tl) (hn : x ≠ "__name__" := by decide) (hdb : (x == ("__debug__" : Str)) = false := by decide)
    (he : starEach [e] X.env = (false, eval e X.env) :: starEach [] X.env := by rfl) (hpl : (backTo pos (starEach [] X.env)).any (·.1) = false := by rfl) : DE B X (.Call (.Name x p) [e] [] pos) (dCN r tl) :=
  pe_imp (pe_callB hc hg hm hv (pa_cons ha pa_nil he) hn hdb he hpl) cn_lift
theorem de_newTy (hc : CallN X (.type T) r) (hg : Gl X x) (hm : X.mg x = none) (hv : bootBuiltins x = some (.type T)) (ha : DL B X e tl) (hn : x ≠ "__name__" := by decide) (hdb : (x == ("__debug__" : Str)) = false := by decide)
    (he : starEach [e] X.env = (false, eval e X.env) :: starEach [] X.env := by rfl) (hpl : (backTo pos (starEach [] X.env)).any (·.1) = false := by rfl) : DE B X (.Call (.Name x p) [e] [] pos) (dCN r tl) :=
  pe_imp (pe_callTy hc hg hm hv (pa_cons ha pa_nil he) hn hdb he hpl) cn_lift
/-- what gives a new list -/
def PostL (K : PySem.W.Frag) (H : Hp) (m : Mem) (q : List D → Mem → Prop) (Q : VK) : Prop := ∀ ds m' a vs H', q ds m' → H' a = some (.lst vs) → Reps K H' ds vs → m' a = none → H a = none → Sim K H' m' → Step H m H' m' → Q (.ref a) H'
abbrev DRL := D → Mem → (List D → Mem → Prop) → Prop
abbrev DRLN := List D → Mem → (List D → Mem → Prop) → Prop
def upCL (K : PySem.W.Frag) (r : DRL) : List V → Hp → VK → Prop := fun xs H Q => ∃ d v m q, xs = [v] ∧ Rep K H d v ∧ Sim K H m ∧ r d m q ∧ PostL K H m q Q
def dCL (r : DRL) (t : DTE) : DTL := fun ρ m q => t ρ m fun d m1 => r d m1 q
def dCNL (r : DRLN) (t : DTL) : DTL := fun ρ m q => t ρ m fun ds m1 => r ds m1 q
theorem PostL.next {K : PySem.W.Frag} {H H1 : Hp} {m m1 : Mem} {q : List D → Mem → Prop} {Q : VK} (post : ∀ ds m' a vs H', q ds m' → H' a = some (.lst vs) → Reps K H' ds vs → m' a = none → H a = none → Sim K H' m' → Step H m H' m' → Q (.ref a) H') (t1 : Step H m H1 m1) : PostL K H1 m1 q Q :=
  fun ds m' a vs H' hq ha hr hn h0 hs st => post ds m' a vs H' hq ha hr hn (t1.dom a h0) hs (t1.trans st)
theorem PostL.lst {K : PySem.W.Frag} {H : Hp} {m : Mem} {q : List D → Mem → Prop} {Q : VK} {ds : List D} {vs : List V} {a : Addr} (p : PostL K H m q Q) (h : q ds m) (n : H a = none) (r : Reps K H ds vs) (s : Sim K H m) : Q (.ref a) (upd H a (.lst vs)) :=
  p ds m a vs _ h upd_same (r.mono (upd_new n)) (s.free n) n (s.alloc n) (Step.alloc n)
variable {rl : DRL} {rn : DRLN}
theorem dl_callB (hc : CallR X (.builtin id) (upCL X.K rl)) (hg : Gl X x) (hm : X.mg x = none) (hv : bootBuiltins x = some (.builtin id)) (ha : DE B X e te) (hn : x ≠ "__name__" := by decide) (hdb : (x == ("__debug__" : Str)) = false := by decide)
    (he : starEach [e] X.env = (false, eval e X.env) :: starEach [] X.env := by rfl) (hpl : (backTo pos (starEach [] X.env)).any (·.1) = false := by rfl) : DL B X (.Call (.Name x p) [e] [] pos) (dCL rl te) :=
  pe_imp (pe_callB hc hg hm hv (pa_cons ha pa_nil he) hn hdb he hpl) fun σ H Q ⟨ρ, m, q, p, h, post⟩ => ⟨ρ, m, _, p, h, fun d m1 v H1 h1 r1 s1 t1 => ⟨d, v, m1, q, rfl, r1, s1, h1, PostL.next post t1⟩⟩
theorem dl_callTy (hc : CallR X (.type T) (upCL X.K rl)) (hg : Gl X x) (hm : X.mg x = none) (hv : bootBuiltins x = some (.type T)) (ha : DE B X e te) (hn : x ≠ "__name__" := by decide) (hdb : (x == ("__debug__" : Str)) = false := by decide)
    (he : starEach [e] X.env = (false, eval e X.env) :: starEach [] X.env := by rfl) (hpl : (backTo pos (starEach [] X.env)).any (·.1) = false := by rfl) : DL B X (.Call (.Name x p) [e] [] pos) (dCL rl te) :=
  pe_imp (pe_callTy hc hg hm hv (pa_cons ha pa_nil he) hn hdb he hpl) fun σ H Q ⟨ρ, m, q, p, h, post⟩ => ⟨ρ, m, _, p, h, fun d m1 v H1 h1 r1 s1 t1 => ⟨d, v, m1, q, rfl, r1, s1, h1, PostL.next post t1⟩⟩
/-! the calls -/
theorem reps1 {K : PySem.W.Frag} {H : Hp} {d : D} {vs : List V} (r : Reps K H [d] vs) : ∃ v, vs = [v] ∧ Rep K H d v := by
  cases r with
  | cons a b => cases b; exact ⟨_, rfl, a⟩
theorem reps2 {K : PySem.W.Frag} {H : Hp} {d e : D} {vs : List V} (r : Reps K H [d, e] vs) : ∃ v u, vs = [v, u] ∧ Rep K H d v ∧ Rep K H e u := by
  cases r with
  | cons a b => cases b with
    | cons c d => cases d; exact ⟨_, _, rfl, a, c⟩
def lenD : DRC
  | [.str x], m, q => x.length ≤ sizeLine ∧ q (.int x.length) m
  | [d], m, q => match itemsOf m d with
    | some xs => q (.int xs.length) m
    | none => False
  | _, _, _ => False
theorem c_len : CallD X (.builtin "len") lenD := by
  intro pins s σ H xs us Q I r ⟨ds, m, q, rs, sim, h, post⟩
  unfold lenD at h
  split at h
  · obtain ⟨v, rfl, rv⟩ := reps1 rs
    cases rv
    exact call_len_str pins s σ H _ us Q I r ⟨_, rfl, h.1, post.here h.2 (.int _) sim⟩
  · split at h
    · rename_i xs e
      obtain ⟨v, rfl, rv⟩ := reps1 rs
      obtain ⟨a, vs, rfl, hq, rr⟩ := sim.seq rv e
      refine call_len_seq pins s σ H _ us Q I r ⟨a, vs, rfl, hq, ?_⟩
      rw [← rr.length]
      exact post.here h (.int _) sim
    · exact h.elim
  · exact h.elim
def absD : DRC
  | [.int i], m, q => q (.int (if i < 0 then -i else i)) m
  | _, _, _ => False
theorem c_abs : CallD X (.builtin "abs") absD := by
  intro pins s σ H xs us Q I r ⟨ds, m, q, rs, sim, h, post⟩
  unfold absD at h
  split at h
  · obtain ⟨v, rfl, rv⟩ := reps1 rs
    cases rv
    exact call_abs pins s σ H _ us Q I r ⟨_, rfl, post.here h (.int _) sim⟩
  · exact h.elim
def max2D : DRC
  | [.int i, .int j], m, q => q (.int (if j > i then j else i)) m
  | _, _, _ => False
def min2D : DRC
  | [.int i, .int j], m, q => q (.int (if j < i then j else i)) m
  | _, _, _ => False
theorem c_max2 (hc : X.calm = true) : CallD X (.builtin "max") max2D := by
  intro pins s σ H xs us Q I r ⟨ds, m, q, rs, sim, h, post⟩
  unfold max2D at h
  split at h
  · obtain ⟨v, u, rfl, rv, ru⟩ := reps2 rs
    cases rv; cases ru
    exact call_max2 hc pins s σ H _ us Q I r ⟨_, _, rfl, post.here h (.int _) sim⟩
  · exact h.elim
theorem c_min2 (hc : X.calm = true) : CallD X (.builtin "min") min2D := by
  intro pins s σ H xs us Q I r ⟨ds, m, q, rs, sim, h, post⟩
  unfold min2D at h
  split at h
  · obtain ⟨v, u, rfl, rv, ru⟩ := reps2 rs
    cases rv; cases ru
    exact call_min2 hc pins s σ H _ us Q I r ⟨_, _, rfl, post.here h (.int _) sim⟩
  · exact h.elim
/-- the built-in type of a thing -/
def tyS (m : Mem) : D → Option String
  | .non => some "NoneType"
  | .bl _ => some "bool"
  | .int _ => some "int"
  | .str _ => some "str"
  | .tup _ => some "tuple"
  | .ftup _ => some "tuple"
  | .rol _ => some "list"
  | .ref a => match m a with
    | some (.lst _) => some "list"
    | some (.dK _) => some "dict"
    | some (.dF _) => some "dict"
    | _ => none
  | .ty _ => none
theorem tyS_ok {K : PySem.W.Frag} {H : Hp} {m : Mem} {d : D} {v : V} {n : String} (s : Sim K H m) (r : Rep K H d v) (e : tyS m d = some n) : TyX K H v (.type n) := by
  cases r with
  | non => cases e; exact .base .non
  | bl b => cases e; exact .base (.bl b)
  | int b => cases e; exact .base (.int b)
  | str b => cases e; exact .base (.str b)
  | ty n => cases e
  | tup h _ => cases e; exact .base (.tup h)
  | ftup h _ _ => cases e; exact .fTuple h
  | rol h _ =>
    cases e
    rcases h with ⟨o, h⟩ | ⟨o, its, n, hk, hc, _⟩
    · exact .base (.frz h)
    · exact .kList hk hc
  | ref a =>
    unfold tyS at e
    dsimp only at e
    split at e
    · rename_i xs q
      cases e
      obtain ⟨vs, h, _⟩ := s a _ q
      exact .base (.lst h)
    · rename_i xs q
      cases e
      obtain ⟨vs, h, _⟩ := s a _ q
      exact .base (.dK h)
    · rename_i xs q
      cases e
      obtain ⟨od, vs, h, _⟩ := s a _ q
      exact .fDict h
    · cases e
/-- what isinstance says of built-in types -/
def isaB : String → String → Option Bool
  | "dict", "int" => some false | "dict", "bool" => some false | "dict", "tuple" => some false | "dict", "list" => some false | "dict", "str" => some false | "dict", "dict" => some true
  | "int", "int" => some true | "bool", "int" => some true | "str", "int" => some false | "tuple", "int" => some false | "list", "int" => some false | "NoneType", "int" => some false
  | "int", "bool" => some false | "bool", "bool" => some true | "str", "bool" => some false | "tuple", "bool" => some false | "list", "bool" => some false | "NoneType", "bool" => some false
  | "int", "tuple" => some false | "bool", "tuple" => some false | "str", "tuple" => some false | "tuple", "tuple" => some true | "list", "tuple" => some false | "NoneType", "tuple" => some false
  | "int", "list" => some false | "bool", "list" => some false | "str", "list" => some false | "tuple", "list" => some false | "list", "list" => some true | "NoneType", "list" => some false
  | "int", "str" => some false | "bool", "str" => some false | "str", "str" => some true | "tuple", "str" => some false | "list", "str" => some false | "NoneType", "str" => some false
  | _, _ => none
theorem isaB_ok {a n : String} {b : Bool} (h : isaB a n = some b) : kitB a n = some b := by
  unfold isaB at h
  split at h <;> first | (cases h; decide +kernel) | cases h
def isAnyB (a : String) : List D → Option Bool
  | [] => some false
  | .ty n :: r => match isaB a n, isAnyB a r with
    | some b, some c => some (b || c)
    | _, _ => none
  | _ => none
def isiD : DRC
  | [d, .ty n], m, q => match tyS m d with
    | some a => match isaB a n with
      | some b => q (.bl b) m
      | none => False
    | none => False
  | [d, .tup ts], m, q => match tyS m d with
    | some a => match isAnyB a ts with
      | some b => q (.bl b) m
      | none => False
    | none => False
  | _, _, _ => False
theorem isAnyB_ok {K : PySem.W.Frag} {H : Hp} {a : String} : ∀ {ts : List D} {vs : List V} {b : Bool}, Reps K H ts vs → isAnyB a ts = some b → ∃ us, Paired ClsV vs us ∧ PySem.W.kitAny K (.type a) us = some b
  | [], _, b, r, e => by cases r; exact ⟨[], .nil, e⟩
  | .ty n :: ts, _, b, r, e => by
    cases r with
    | cons r1 r2 =>
      cases r1
      unfold isAnyB at e
      split at e
      · rename_i b1 c1 q1 q2
        cases e
        obtain ⟨us, h1, h2⟩ := isAnyB_ok r2 q2
        refine ⟨.type n :: us, .cons (.ty n) h1, kitAny_cons (kit_ty (isaB_ok q1)) (fun z => ?_) (fun z => by rw [z]; rfl)⟩
        rw [h2, z]
        rfl
      · cases e
  | .non :: _, _, _, _, e => by cases e
  | .bl _ :: _, _, _, _, e => by cases e
  | .int _ :: _, _, _, _, e => by cases e
  | .str _ :: _, _, _, _, e => by cases e
  | .ref _ :: _, _, _, _, e => by cases e
  | .tup _ :: _, _, _, _, e => by cases e
  | .ftup _ :: _, _, _, _, e => by cases e
  | .rol _ :: _, _, _, _, e => by cases e
theorem c_isi : CallD X (.builtin "isinstance") isiD := by
  intro pins s σ H xs us Q I r ⟨ds, m, q, rs, sim, h, post⟩
  unfold isiD at h
  split at h
  · rename_i d n
    split at h
    · rename_i a ea
      split at h
      · rename_i b eb
        obtain ⟨v, u, rfl, rv, ru⟩ := reps2 rs
        cases ru
        exact call_isi pins s σ H _ us Q I r ⟨v, _, _, _, b, rfl, .ty n, tyS_ok sim rv ea, kit_ty (isaB_ok eb), post.here h (.bl _) sim⟩
      · exact h.elim
    · exact h.elim
  · rename_i d ts
    split at h
    · rename_i a ea
      split at h
      · rename_i b eb
        obtain ⟨v, u, rfl, rv, ru⟩ := reps2 rs
        cases ru with
        | tup h1 q1 =>
          obtain ⟨ws, k1, k2⟩ := isAnyB_ok q1 eb
          exact call_isiT pins s σ H _ us Q I r ⟨v, _, _, _, ws, b, rfl, h1, k1, tyS_ok sim rv ea, k2, post.here h (.bl _) sim⟩
      · exact h.elim
    · exact h.elim
  · exact h.elim
def tupleD : DRC
  | [.ftup xs], m, q => q (.ftup xs) m
  | [d], m, q => match itemsOf m d with
    | some xs => q (.tup xs) m
    | none => False
  | _, _, _ => False
theorem c_tuple : CallD X (.type "tuple") tupleD := by
  intro pins s σ H xs us Q I r ⟨ds, m, q, rs, sim, h, post⟩
  unfold tupleD at h
  split at h
  · obtain ⟨v, rfl, rv⟩ := reps1 rs
    cases rv with
    | ftup h1 n1 q1 => exact call_tuple_of pins s σ H _ us Q I r ⟨_, _, rfl, .inr ⟨.inl (.inr ⟨_, h1⟩), post.here h (.ftup h1 n1 q1) sim⟩⟩
  · rename_i nf
    split at h
    · rename_i xs e
      obtain ⟨v, rfl, rv⟩ := reps1 rs
      cases rv with
      | tup h1 q1 => cases e; exact call_tuple_of pins s σ H _ us Q I r ⟨_, _, rfl, .inr ⟨SqT.of h1, post.here h (.tup h1 q1) sim⟩⟩
      | rol h1 q1 => cases e; exact call_tuple_of pins s σ H _ us Q I r ⟨_, _, rfl, .inl ⟨rol_sq h1, fun l hl => post.tup h hl q1 sim⟩⟩
      | ref a =>
        unfold itemsOf at e
        dsimp only at e
        split at e
        · rename_i ys q2
          cases e
          obtain ⟨vs, hv, rr⟩ := sim a _ q2
          exact call_tuple_of pins s σ H _ us Q I r ⟨_, _, rfl, .inl ⟨SqL.of hv, fun l hl => post.tup h hl rr sim⟩⟩
        · cases e
      | ftup h1 _ q1 => exact absurd rfl (nf _)
      | _ => cases e
    · exact h.elim
  · exact h.elim
theorem n_tuple : CallN X (.type "tuple") (fun ds m q => q (.tup ds) m) := by
  intro pins s σ H xs us Q I r ⟨a, ds, vs, m, q, e, ha, rs, hn, sim, h, post⟩
  subst e
  exact call_tuple_of pins s σ H _ us Q I r ⟨a, vs, rfl, .inl ⟨SqL.of ha, fun l hl => post.tup h hl rs sim⟩⟩
/-- list(x) -/
def listD : DRL := fun d m q => match itemsOf m d with
  | some xs => q xs m
  | none => False
theorem l_list : CallR X (.type "list") (upCL X.K listD) := by
  intro pins s σ H xs us Q I r ⟨d, v, m, q, e, rd, sim, h, post⟩
  subst e
  unfold listD at h
  split at h
  · rename_i ys ey
    obtain ⟨a, vs, rfl, hq, rr⟩ := sim.seq rd ey
    exact call_list_of pins s σ H _ us Q I r ⟨a, vs, rfl, hq, fun l hl => post.lst h hl rr sim⟩
  · exact h.elim
/-- all, any -/
def boolsOf : List D → Option (List Bool)
  | [] => some []
  | .bl b :: r => match boolsOf r with
    | some bs => some (b :: bs)
    | none => none
  | _ => none
theorem boolsOf_ok : ∀ {ds : List D} {bs : List Bool}, boolsOf ds = some bs → ds = bs.map D.bl
  | [], _, e => by cases e; rfl
  | .bl b :: r, _, e => by
    unfold boolsOf at e
    split at e
    · rename_i bs q; cases e; rw [List.map_cons, boolsOf_ok q]
    · cases e
  | .non :: _, _, e => by cases e
  | .int _ :: _, _, e => by cases e
  | .str _ :: _, _, e => by cases e
  | .ty _ :: _, _, e => by cases e
  | .ref _ :: _, _, e => by cases e
  | .tup _ :: _, _, e => by cases e
  | .ftup _ :: _, _, e => by cases e
  | .rol _ :: _, _, e => by cases e
theorem boolsOf_map : ∀ (bs : List Bool), boolsOf (bs.map D.bl) = some bs
  | [] => rfl
  | b :: bs => by rw [List.map_cons, boolsOf, boolsOf_map bs]
def allN : DRC := fun ds m q => match boolsOf ds with
  | some bs => q (.bl (bs.all _root_.id)) m
  | none => False
def anyN : DRC := fun ds m q => match boolsOf ds with
  | some bs => q (.bl (bs.any _root_.id)) m
  | none => False
theorem n_all (hc : X.calm = true) : CallN X (.builtin "all") allN := by
  intro pins s σ H xs us Q I r ⟨a, ds, vs, m, q, e, ha, rs, hn, sim, h, post⟩
  subst e
  unfold allN at h
  split at h
  · rename_i bs eb
    rw [boolsOf_ok eb] at rs
    have ev := rs.ofBls
    subst ev
    exact cr_all hc pins s σ H _ us Q I r ⟨a, bs, rfl, SqL.of ha, post.here h (.bl _) sim⟩
  · exact h.elim
/-- sorted of ints -/
def intsOf : List D → Option (List Int)
  | [] => some []
  | .int b :: r => match intsOf r with
    | some bs => some (b :: bs)
    | none => none
  | _ => none
theorem intsOf_ok : ∀ {ds : List D} {bs : List Int}, intsOf ds = some bs → ds = bs.map D.int
  | [], _, e => by cases e; rfl
  | .int b :: r, _, e => by
    unfold intsOf at e
    split at e
    · rename_i bs q; cases e; rw [List.map_cons, intsOf_ok q]
    · cases e
  | .non :: _, _, e => by cases e
  | .bl _ :: _, _, e => by cases e
  | .str _ :: _, _, e => by cases e
  | .ty _ :: _, _, e => by cases e
  | .ref _ :: _, _, e => by cases e
  | .tup _ :: _, _, e => by cases e
  | .ftup _ :: _, _, e => by cases e
  | .rol _ :: _, _, e => by cases e
theorem intsOf_map : ∀ (bs : List Int), intsOf (bs.map D.int) = some bs
  | [] => rfl
  | b :: bs => by rw [List.map_cons, intsOf, intsOf_map bs]
def sortD : DRL := fun d m q => match itemsOf m d with
  | some xs => match intsOf xs with
    | some ns => ns.length < 64 ∧ ∀ ns' : List Int, ns'.Perm ns → ns'.Pairwise (· ≤ ·) → q (ns'.map D.int) m
    | none => False
  | none => False
theorem collect_tup {prog : Program} {w : World} {A : Around} {E : Value → Shared → Prop} {s : Shared} {l : Addr} {vs : List Value} {Q : List Value → Shared → Prop} (hl : IsTup s.heap l vs.toArray)
    (h : Q vs { s with heap := (s.heap.push (seqObj "list" #[] 0)).update s.heap.objs.size (Obj.mapSeq (· ++ vs.toArray)) }) (hsz : vs.length ≤ sizeLine) :
    wpAny (model prog w) A (collect (.ref l)) Q E s := by
  obtain ⟨o, ho, hc, n, hd⟩ := id hl
  unfold collect
  refine wpAny_bind (wpAny_runValue (codeAny_builtin entry_proto_collect' ?_))
  show wpAny _ _ (do again (.builtin "list.__iadd__" ⟨[← newList [], .ref l], []⟩)) _ _ s
  refine wpAny_bind (wpAny_newList (wpAny_pure ⟨Code.quiet_builtin _ (by decide +kernel), codeAny_builtin entry_list_iadd' ?_⟩))
  show wpAny _ _ (Builtin.List.listExtendWith (.ref s.heap.objs.size) (.ref l) (.ref s.heap.objs.size)) _ _ { s with heap := s.heap.push (seqObj "list" #[] 0) }
  unfold Builtin.List.listExtendWith
  have ho' : (s.heap.push (seqObj "list" #[] 0)).get? l = some o := Heap.get?_push_of_some _ ho
  refine wpAny_bind (wpAny_typeOf (T := "tuple") ⟨o, ho', hc⟩ ?_)
  have ht : (Value.type "tuple" == Value.type "tuple") = true := by rfl
  rw [if_pos (by rw [ht]; simp)]
  refine wpAny_bind (listItems_at ho' hd ?_)
  refine wpAny_bind (listItems_at (xs := #[]) (n := 0) (Heap.get?_push_size _ rfl) rfl ?_)
  rw [if_neg (by simp)]
  refine wpAny_bind (listUpdate_at (xs := #[]) (n := 0) (Heap.get?_push_size _ rfl) rfl ?_ (Nat.zero_le _) (by show (#[] ++ vs.toArray).size ≤ sizeLine + 1; simp only [Array.size_append, List.size_toArray, List.length_nil]; omega))
  refine wpAny_pure ?_
  show wpAny (model prog w) A (do
      let o ← load s.heap.objs.size
      match o.data with
      | .seq xs _ => pure xs.toList
      | _ => unsupported "internal:collect") Q E { s with heap := (s.heap.push (seqObj "list" #[] 0)).update s.heap.objs.size (Obj.mapSeq (· ++ vs.toArray)) }
  refine wpAny_bind (wpAny_load (get?_update_seq (Heap.get?_push_size _ rfl) _) ?_)
  show wpAny _ _ (pure ((#[] : Array Value) ++ vs.toArray).toList) Q E _
  rw [show ((#[] : Array Value) ++ vs.toArray).toList = vs by simp]
  exact wpAny_pure h
theorem sorted_tup {prog : Program} {w : World} {A : Around} {E : Value → Shared → Prop} {s : Shared} {l : Addr} {vs : List Value} {ns : List Int} {Q : Value → Shared → Prop} (hl : IsTup s.heap l vs.toArray) (hI : IntsAre vs ns) (h64 : vs.length < 64)
    (h : ∀ (out : Array Value) (ns' : List Int), IntsAre out.toList ns' → ns'.Perm ns → ns'.Pairwise (· ≤ ·) → Q (.ref (s.heap.objs.size + 1)) { s with heap := sortedAll s.heap vs out }) :
    wpAny (model prog w) A (call (.builtin "sorted") [.ref l]) Q E s := by
  refine Calls.call_function_entry kind_sorted plain_sorted entry_sorted (args_sorted1 _) ?_
  unfold Builtin.«sorted»
  refine wpAny_bind (m := checkCount "sorted" 1 1 _) (wpAny_pure ?_)
  refine wpAny_bind (collect_tup hl ?_ (by rw [sizeLine_eq]; omega))
  refine wpAny_bind (wpAny_newList ?_ (by rw [sizeLine_eq]; omega))
  have hsz : ((s.heap.push (seqObj "list" #[] 0)).update s.heap.objs.size (Obj.mapSeq (· ++ vs.toArray))).objs.size = s.heap.objs.size + 1 := by
    rw [Heap.size_update, size_push']
  have hoL : (((s.heap.push (seqObj "list" #[] 0)).update s.heap.objs.size (Obj.mapSeq (· ++ vs.toArray))).push (seqObj "list" vs.toArray 0)).get? (s.heap.objs.size + 1) = some (seqObj "list" vs.toArray 0) := by
    rw [← hsz]; exact Heap.get?_push_size _ rfl
  show wpAny _ _ _ _ _ { s with heap := ((s.heap.push (seqObj "list" #[] 0)).update s.heap.objs.size (Obj.mapSeq (· ++ vs.toArray))).push (seqObj "list" vs.toArray 0) }
  rw [hsz]
  refine wpAny_bind (wpAny_holding (wpAny_call_entry slot_list_sort ⟨_, hoL, rfl⟩ entry_list_sort (list_sort_tree hoL hI h64 fun out ns' a1 a2 a3 => ⟨_, rfl, ?_⟩) (args_list_sort _)))
  exact wpAny_pure ⟨_, rfl, h out ns' a1 a2 a3⟩
theorem l_sorted : CallR X (.builtin "sorted") (upCL X.K sortD) := by
  intro pins s σ H xs us Q I r ⟨d, v, m, q, e, rd, sim, h, post⟩
  subst e
  unfold sortD at h
  split at h
  · rename_i ys ey
    split at h
    · rename_i ns en
      obtain ⟨h64, hq⟩ := h
      obtain ⟨a, vs, rfl, hs, rr⟩ := sim.seq rd ey
      rw [intsOf_ok en] at rr
      have ev := rr.ofInts
      subst ev
      rcases hs with hs | hs
      · exact cr_sorted pins s σ H _ us Q I r ⟨a, ns, rfl, hs, h64, fun ns' p hp ho hn => post.lst (hq ns' hp ho) hn (Reps.ints ns') sim⟩
      · obtain ⟨its, rv, hl, _⟩ := I.tuple hs
        rw [Vals.ref1 r]
        have hi := rv.ints
        refine sorted_tup hl hi (by rw [hi.length]; exact h64) fun out ns' h1 h2 h3 => ?_
        obtain ⟨ep, he'⟩ := PyProof.Rows.sortedAll_at s.heap its out
        have hlen : (ns'.map V.int).length ≤ sizeLine := by rw [List.length_map, h2.length_eq]; exact small64 h64
        exact ⟨.ref _, upd H (s.heap.objs.size + 1) (.lst (ns'.map V.int)), I.laid (t' := s.toks) (fun _ _ => PyProof.Rows.sortedAll_old) (Nat.le_succ _) ⟨hlen, out.toList, ep, vals_of_ints h1, he'⟩, rfl, post.lst (hq ns' h2 h3) (I.hok.fresh (Nat.le_succ _)) (Reps.ints ns') sim⟩
    · exact h.elim
  · exact h.elim
/-- list(range(n)), tuple(range(n)) -/
def dRg1 (ta : DTE) (k : List D → Mem → Prop) : DEnv → Mem → Prop := fun ρ m => ta ρ m fun d m1 => match d with
  | .int n => RgOk 0 n ∧ k (rngD 0 n.toNat) m1
  | _ => False
theorem rgV_eq (a b : Int) : rgV a b = (List.range (b - a).toNat).map fun i => V.int (a + (i : Nat)) := rfl
theorem reps_rng {K : PySem.W.Frag} {H : Hp} (a : Int) : ∀ l : List Nat, Reps K H (l.map fun k => D.int (a + (k : Nat))) (l.map fun k => V.int (a + (k : Nat)))
  | [] => .nil
  | n :: l => .cons (.int _) (reps_rng a l)
theorem dl_listRg1 {a : Expr} {ta : DTE} {p p2 pos pos2 : Pos} (hc : X.calm = true) (hg : Gl X "list") (hm : X.mg "list" = none) (hg2 : Gl X "range") (hm2 : X.mg "range" = none) (ha : DE B X a ta)
    (na : starEach [a] X.env = (false, eval a X.env) :: starEach [] X.env := by rfl) (ne : starEach [Expr.Call (.Name "range" p2) [a] [] pos2] X.env = (false, eval (.Call (.Name "range" p2) [a] [] pos2) X.env) :: starEach [] X.env := by rfl) :
    DL B X (.Call (.Name "list" p) [.Call (.Name "range" p2) [a] [] pos2] [] pos) (fun ρ m q => dRg1 ta q ρ m) :=
  pe_imp (pe_listRg hc hg hm (prg_1 hg2 hm2 ha na) ne) fun σ H Q ⟨ρ, m, q, p, h, post⟩ => ⟨ρ, m, _, p, h, fun d m1 v H1 h1 r1 s1 t1 => by
    cases d with
    | int n =>
      cases r1
      obtain ⟨ok, h1⟩ := h1
      refine ⟨n, rfl, ok, fun l hl => PostL.lst (PostL.next post t1) h1 hl ?_ s1⟩
      rw [rgV_eq, Int.sub_zero]
      exact reps_rng 0 _
    | _ => exact (show False from h1).elim⟩
/-- == of two lists just made -/
def eqLs (xs ys : List D) (m : Mem) (q : Bool → Prop) : Prop := match pyDs m xs, pyDs m ys with
  | some a, some b => SeqAt.shaped (.list a) = true ∧ SeqAt.shaped (.list b) = true ∧ q (PyData.eqvAll a b)
  | _, _ => False
def dEqNN (neg : Bool) (ta tb : DTL) : DTE := fun ρ m q => ta ρ m fun xs m1 => tb ρ m1 fun ys m2 => eqLs xs ys m2 fun b => q (.bl (if neg then !b else b)) m2
theorem eqNN_lift {K : PySem.W.Frag} {ta tb : DTL} : ∀ σ H Q, upE K B (dEqNN false ta tb) σ H Q → tOp (rEqD K) (upL K B ta) (upL K B tb) σ H Q :=
  fun σ H Q ⟨ρ, m, q, p, h, post⟩ => ⟨ρ, m, _, p, h, fun xs m1 a va H1 h1 ha ra na h0a s1 t1 => ⟨ρ, m1, _, p.next s1 t1, h1, fun ys m2 b vb H2 h2 hb rb nb h0b s2 t2 => by
    unfold eqLs at h2
    split at h2
    · rename_i pa pb e1 e2
      obtain ⟨z1, z2, h2⟩ := h2
      exact ⟨.list pa, .list pb, .lst (SqL.of (t2.keep a _ na ha)) (pyWs_ok (pyA_ok s2 3) (ra.mono t2.ext) e1), .lst (SqL.of hb) (pyWs_ok (pyA_ok s2 3) rb e2), z1, z2, post _ m2 _ H2 h2 (.bl _) s2 (t1.trans t2)⟩
    · exact h2.elim⟩⟩
theorem de_eqNN {a b : Expr} {ta tb : DTL} (hu : X.A.units + 64 < cLine) (ha : DL B X a ta) (hb : DL B X b tb) : DE B X (.Compare a [.Eq] [b] pos) (dEqNN false ta tb) := pe_imp (pe_cmpR (op_eqD hu) ha hb (nomark _)) eqNN_lift
/-- x == [], x != [] of a list -/
def dNil? (neg : Bool) (ta : DTE) : DTE := fun ρ m q => ta ρ m fun d m1 => match itemsL m1 d with
  | some xs => (∃ ps, pyDs m1 xs = some ps ∧ SeqAt.shaped (.list ps) = true) ∧ q (.bl (if neg then !xs.isEmpty else xs.isEmpty)) m1
  | none => False
theorem eqvAll_nil : ∀ {xs : List D} {ps : List PyData} {f : Addr → Option PyData}, pyWs f xs = some ps → PyData.eqvAll ps [] = xs.isEmpty
  | [], _, _, e => by cases e; rfl
  | d :: ds, _, f, e => by
    unfold pyWs at e
    split at e
    · cases e; rfl
    · cases e
theorem nnil_lift {K : PySem.W.Frag} {ta : DTE} : ∀ σ H Q, upE K B (dNil? true ta) σ H Q → tOp (rNeD K) (upE K B ta) (tLst tNil) σ H Q :=
  fun σ H Q ⟨ρ, m, q, p, h, post⟩ => ⟨ρ, m, _, p, h, fun d m1 v H1 h1 r1 s1 t1 => ⟨Nat.zero_le _, fun b hb => by
    split at h1
    · rename_i xs ex
      obtain ⟨⟨ps, e1, z1⟩, h1⟩ := h1
      have s2 : Sim K (upd H1 b (.lst [])) m1 := s1.alloc hb
      obtain ⟨a', vs', ea, hs', rr'⟩ := s2.sq (r1.mono (upd_new hb)) ex
      subst ea
      refine ⟨.list ps, .list [], .lst hs' (pyWs_ok (pyA_ok s2 3) rr' e1), .lst (SqL.of upd_same) .nil, z1, by decide, ?_⟩
      show Q (.bl (!PyData.eqv (.list ps) (.list []))) _
      rw [show PyData.eqv (.list ps) (.list []) = xs.isEmpty by rw [PyData.eqv]; exact eqvAll_nil e1]
      exact post _ m1 _ _ h1 (.bl _) s2 (t1.trans (Step.alloc hb))
    · exact h1.elim⟩⟩
theorem dt_neNil {a : Expr} {ta : DTE} {p2 : Pos} (hu : X.A.units + 64 < cLine) (ha : DE B X a ta) : DT B X (.Compare a [.NotEq] [.List [] p2] pos) (dTest (dNil? true ta)) := pt_imp (pt_cmpR (op_neD hu) ha (pe_lst pa_nil) (nomark _)) (test_lift nnil_lift)
end
end L2.Lh

namespace L2.Lh
open PySem PySem.Spec PyProof.Rows

/-! ### defs -/
/-- what is wanted of an error: its class, the slots, the memory -/
abbrev DWX := Value → DEnv → Mem → Prop
/-- an error that has a field is told by a mark: its class, and where its fields stand -/
def xvC : Value → Value
  | .int (.ofNat C) _ => .ref C
  | v => v
def xvD : Value → Option Addr
  | .int (.ofNat _) dx => some dx
  | _ => none
def upW (K : PySem.W.Frag) (B : Bs) (we : DWX) : WX := fun cls d σ H => ∃ c, (cls = xvC c ∧ d = xvD c) ∧ ∃ ρ m, Pre K B ρ m σ H ∧ we c ρ m
abbrev DSp := List D → Mem → DQ → (Value → Mem → Prop) → Prop
def upSp (K : PySem.W.Frag) (sp : DSp) : Sp := fun vs H Q E => ∃ ds m q qe, Reps K H ds vs ∧ Sim K H m ∧ sp ds m q qe ∧ PostE K H m q Q ∧ ∀ cls m' H', qe cls m' → Sim K H' m' → Step H m H' m' → E (xvC cls) (xvD cls) H'
abbrev FnD (P : Program) (w : World) (K : PySem.W.Frag) (mg : Str → Option Value) (base : Heap) (k : Nat) (f : Addr) (fd : FuncData) (ps : List Str) (sp : DSp) : Prop := FnOk P w K mg base (L2.CX P w) k f fd ps (upSp K sp)
def sp1 (f : D → Mem → DQ → (Value → Mem → Prop) → Prop) : DSp := fun ds m q qe => match ds with | [a] => f a m q qe | _ => False
def sp2 (f : D → D → Mem → DQ → (Value → Mem → Prop) → Prop) : DSp := fun ds m q qe => match ds with | [a, b] => f a b m q qe | _ => False
def sp3 (f : D → D → D → Mem → DQ → (Value → Mem → Prop) → Prop) : DSp := fun ds m q qe => match ds with | [a, b, c] => f a b c m q qe | _ => False
theorem sp1_at {f} {ds : List D} {m q qe} (h : sp1 f ds m q qe) : ∃ a, ds = [a] ∧ f a m q qe := by
  match ds, h with
  | [a], h => exact ⟨a, rfl, h⟩
theorem sp2_at {f} {ds : List D} {m q qe} (h : sp2 f ds m q qe) : ∃ a b, ds = [a, b] ∧ f a b m q qe := by
  match ds, h with
  | [a, b], h => exact ⟨a, b, rfl, h⟩
theorem sp3_at {f} {ds : List D} {m q qe} (h : sp3 f ds m q qe) : ∃ a b c, ds = [a, b, c] ∧ f a b c m q qe := by
  match ds, h with
  | [a, b, c], h => exact ⟨a, b, c, rfl, h⟩
theorem sp1_len {f} {ds : List D} {m q qe} (h : sp1 f ds m q qe) : ds.length = 1 := by obtain ⟨a, e, _⟩ := sp1_at h; rw [e]; rfl
theorem sp2_len {f} {ds : List D} {m q qe} (h : sp2 f ds m q qe) : ds.length = 2 := by obtain ⟨a, b, e, _⟩ := sp2_at h; rw [e]; rfl
theorem sp3_len {f} {ds : List D} {m q qe} (h : sp3 f ds m q qe) : ds.length = 3 := by obtain ⟨a, b, c, e, _⟩ := sp3_at h; rw [e]; rfl
def startD (N : List Str) (ds : List D) : DEnv := ds.map some ++ List.replicate (N.length - ds.length) none
theorem start_ok {K : PySem.W.Frag} {H : Hp} {N : List Str} {ds : List D} {vs : List V} (r : Reps K H ds vs) : RepEnv K H (startD N ds) (L2.start N vs) := by
  unfold startD L2.start
  rw [r.length]
  have gen : ∀ {ds : List D} {vs : List V} {a : DEnv} {b : St}, Reps K H ds vs → RepEnv K H a b → RepEnv K H (ds.map some ++ a) (vs.map some ++ b) := by
    intro ds vs a b r q
    induction ds generalizing vs with
    | nil => cases r; exact q
    | cons d ds ih =>
      cases r with
      | cons r1 r2 => exact .cons r1 (ih r2)
  refine gen r ?_
  generalize N.length - vs.length = n
  induction n with
  | zero => exact .nil
  | succ n ih => exact .cons trivial ih
/-- a def's ends: what is not asked is forgotten -/
def defEnds (q : DQ) : DEnds := { nx := fun _ m => ∃ m' : Mem, m'.le m ∧ q .non m', rt := fun d m => ∃ m' : Mem, m'.le m ∧ q d m' }
section
variable {P : Program} {w : World} {K : PySem.W.Frag} {mg : Str → Option Value} {base : Heap}
theorem fnD_of {x qual : Str} {st : Stmt} {f : Addr} {fd : FuncData} {N ps : List Str} {k : Nat} {sp : DSp} (F : Fun K x qual st f fd) (S : FnScope N ps (defScope st)) (len : ∀ {ds m q qe}, sp ds m q qe → ds.length = ps.length)
    (body : ∀ (cdv : Value) (A : Around) (outer : List Env) (s : Shared) (H : Hp) (E : XK) (B : Bs) (qe : Value → Mem → Prop),
      Room k (A.deeper (envOfC qual (defScope st) s.heap.objs.size f cdv)) →
      Takes (cxOf (L2.CX P w) P w K mg base N qual (defScope st) f cdv A outer s H E) (upW K B fun cls _ m => qe cls m) →
      PassesOwn (model P w) (cxOf (L2.CX P w) P w K mg base N qual (defScope st) f cdv A outer s H E).A (cxOf (L2.CX P w) P w K mg base N qual (defScope st) f cdv A outer s H E).env (cxOf (L2.CX P w) P w K mg base N qual (defScope st) f cdv A outer s H E).xe →
      ∃ t, DSs B (cxOf (L2.CX P w) P w K mg base N qual (defScope st) f cdv A outer s H E) (defBody st) t ∧ ∀ ds m q, sp ds m q qe → t (defEnds q) (startD N ds) m) : FnD P w K mg base (k + 1) f fd ps sp := by
  refine F.okX S (fun vs H Q E h => ?_) (fun cdv A outer s H vs Q E hr h => ?_)
  · obtain ⟨ds, m, q, qe, r, _, h, _⟩ := h
    rw [← r.length]
    exact len h
  · obtain ⟨ds, m, q, qe, r, sim, h, post, hE⟩ := h
    have tk : Takes (cxOf (L2.CX P w) P w K mg base N qual (defScope st) f cdv A outer s H E) (upW K ⟨H, m⟩ fun cls _ m => qe cls m) :=
      (takes_of (E := E) rfl rfl rfl rfl).imp fun cls d σ H' ⟨c, ⟨e1, e2⟩, ρ, m', p, q'⟩ => by
        subst e1 e2
        exact hE c m' H' q' p.sim p.st
    obtain ⟨t, ht, hq⟩ := body cdv A outer s H E ⟨H, m⟩ qe hr tk (passes_of (K := fun e s'' => L2.CX P w outer H s E e s'') rfl)
    refine ⟨_, ht, startD N ds, m, defEnds q, ⟨start_ok r, sim, Step.refl _ _⟩, hq ds m q h, ?_⟩
    exact ⟨fun ρ' m' σ' H' ⟨m2, hle, hq⟩ env s2 st => post .non m2 .non H' hq .non (s2.forget hle) (st.forget hle), fun d m' v H' ⟨m2, hle, hq⟩ rd s2 st => post d m2 v H' hq rd (s2.forget hle) (st.forget hle),
      fun _ _ _ _ z => False.elim z, fun _ _ _ _ z => False.elim z⟩
end

/-! ### calls -/
def dCall (sp : DSp) (we : DWX) (t : DTA) : DTE := fun ρ m q => t ρ m fun ds m1 => sp ds m1 q fun cls m2 => we cls ρ m2
section
variable {X : Cx} {B : Bs} {k : Nat} {f : Addr} {fd : FuncData} {ps : List Str} {sp : DSp} {we : DWX} {x : Str} {p pos : Pos} {e : Expr} {es : List Expr} {t : DTA}
theorem call_lift {K : PySem.W.Frag} : ∀ σ H Q, upE K B (dCall sp we t) σ H Q → tCallS (upSp K sp) (WE (upW K B we)) (upA K B t) σ H Q :=
  fun σ H Q ⟨ρ, m, q, p, h, post⟩ => ⟨ρ, m, _, p, h, fun ds m1 vs H1 h1 r1 s1 t1 => ⟨ds, m1, q, _, r1, s1, h1, fun d2 m2 v2 H2 h2 r2 s2 t2 => post d2 m2 v2 H2 h2 r2 s2 (t1.trans t2),
    fun cls m2 H2 hq s2 t2 => ⟨cls, ⟨rfl, rfl⟩, ρ, m2, p.next s2 (t1.trans t2), hq⟩⟩⟩
theorem de_call (F : FnD X.prog X.w X.K X.mg X.base k f fd ps sp) (hr : Room k X.A) (hg : Gl X x) (hm : X.mg x = some (.ref f)) (hk : PySem.W.keepIn X.K (.ref f) = true) (hb : Binds X.K fd ps []) (tk : Takes X (upW X.K B we))
    (ha : DA B X (e :: es) t) (hdb : (x == ("__debug__" : Str)) = false := by decide) (he : starEach (e :: es) X.env = (false, eval e X.env) :: starEach es X.env := by rfl) (hpl : (backTo pos (starEach es X.env)).any (·.1) = false := by rfl) :
    DE B X (.Call (.Name x p) (e :: es) [] pos) (dCall sp we t) := pe_imp (pe_callS F hr hg hm hk hb (fun σ => passAt tk σ) ha hdb he hpl) call_lift
/-- within a comprehension nothing is raised -/
abbrev we0 : DWX := fun _ _ _ => False
theorem takesN {K : PySem.W.Frag} : Takes X (upW K B we0) := fun _ _ ⟨_, _, _, _, _, _, _, _, _, _, _, _, _, _, _, _, _, _, _, _, _, z⟩ => False.elim z
def dNever : DTS := fun _ _ _ => False
theorem ds_never {st : Stmt} : DS B X st dNever := ⟨fun _ _ _ _ _ _ ⟨_, _, _, _, z, _⟩ => z.elim⟩
end

/-! ### the law's own end -/
theorem law_cx {P : Program} {w : World} {H : Hp} {s : Shared} {e : Value} {s' : Shared} (h : L2.CX P w [] H s (fun _ _ _ => False) e s') : False := by
  obtain ⟨_, _, _, _, _, _, _, _, _, _, _, _, z⟩ := h
  exact z
end L2.Lh
namespace L2.Lh
open PySem PySem.Spec PyProof.Rows
/-- a new list, remembered -/
def dNew (t : DTL) : DTE := fun ρ m q => t ρ m fun ds m' => ∀ a, m' a = none → q (.ref a) (m'.set a (.lst ds))
theorem de_new {X : Cx} {B : Bs} {e : Expr} {t : DTL} (h : DL B X e t) : DE B X e (dNew t) := de_dl h
def dListRg (ta : DTE) : DTL := fun ρ m q => dRg1 ta q ρ m
def dTupRg (ta : DTE) : DTE := fun ρ m q => dRg1 ta (fun ds m' => q (.tup ds) m') ρ m
/-- a def of the text as it is called -/
structure DefAt (P : Program) (w : World) (K : PySem.W.Frag) (mg : Str → Option Value) (base : Heap) (k : Nat) (x : Str) (ps : List Str) (sp : DSp) where
  f : Addr
  fd : FuncData
  ok : FnD P w K mg base k f fd ps sp
  g : mg x = some (.ref f)
  kp : PySem.W.keepIn K (.ref f) = true
  b : Binds K fd ps []
def GI (mg : Str → Option Value) (x : Str) (i : Int) : Prop := ∃ t, mg x = some (.int i t)
section
variable {X : Cx} {B : Bs} {k : Nat} {ps : List Str} {sp : DSp} {we : DWX} {x : Str} {p pos : Pos} {e : Expr} {es : List Expr} {t : DTA}
theorem de_callD (d : DefAt X.prog X.w X.K X.mg X.base k x ps sp) (hr : Room k X.A) (hg : Gl X x) (tk : Takes X (upW X.K B we)) (ha : DA B X (e :: es) t) (hdb : (x == ("__debug__" : Str)) = false := by decide)
    (he : starEach (e :: es) X.env = (false, eval e X.env) :: starEach es X.env := by rfl) (hpl : (backTo pos (starEach es X.env)).any (·.1) = false := by rfl) : DE B X (.Call (.Name x p) (e :: es) [] pos) (dCall sp we t) :=
  de_call d.ok hr hg d.g d.kp d.b tk ha hdb he hpl
theorem de_gi {x : Str} {i : Int} {pos : Pos} (h : GI X.mg x i) (hg : Gl X x) (hd : (x == ("__debug__" : Str)) = false := by decide) : DE B X (.Name x pos) (dC (.int i)) := let ⟨_, h⟩ := h; de_gint hg h hd
end
end L2.Lh

/-! plain lemmas over readings -/
namespace L2.Lh
open PySem PySem.Spec PyProof.Rows

theorem defEnds_here {q : DQ} {d : D} {m : Mem} (h : q d m) : (defEnds q).rt d m := ⟨m, Mem.le_refl m, h⟩
theorem defEnds_le {q : DQ} {d : D} {m m' : Mem} (l : m'.le m) (h : q d m') : (defEnds q).rt d m := ⟨m', l, h⟩
def rngI (n : Nat) : List Int := (List.range n).map fun (k : Nat) => ((k : Nat) : Int)
theorem rngI_length (n : Nat) : (rngI n).length = n := by simp [rngI]
theorem rngD0 (n : Nat) : rngD 0 n = (rngI n).map D.int := by
  simp [rngD, rngI]
theorem mem_rngI {n : Nat} {i : Int} : i ∈ rngI n ↔ 0 ≤ i ∧ i < n := by
  unfold rngI
  rw [List.mem_map]
  constructor
  · rintro ⟨k, hk, rfl⟩
    have := List.mem_range.mp hk
    omega
  · intro h
    exact ⟨i.toNat, List.mem_range.mpr (by omega), by omega⟩
theorem rngI_sorted (n : Nat) : (rngI n).Pairwise (· ≤ ·) := by
  unfold rngI
  rw [List.pairwise_map]
  exact List.Pairwise.imp (fun h => by omega) (List.pairwise_lt_range (n := n))
theorem sorted_one {xs ys : List Int} (h : xs.Perm ys) (h1 : xs.Pairwise (· ≤ ·)) (h2 : ys.Pairwise (· ≤ ·)) : xs = ys :=
  h.eq_of_pairwise (fun _ _ _ _ a b => Int.le_antisymm a b) h1 h2
theorem sized {n : Nat} (h : n ≤ 100000) : n ≤ sizeLine := by rw [sizeLine_eq]; omega
theorem sized' {n : Nat} (h : n ≤ 100000) : n < sizeLine := by rw [sizeLine_eq]; omega

/-- known things -/
def kn (m : Mem) (d : D) : Prop := (tyS m d).isSome = true

/-- a comprehension whose element is a function of the item -/
theorem comp_map {chk : Mem → Prop} {i : Nat} {te : DTE} {ρ : DEnv} {q : List D → Mem → Prop} (f : D → D) {m : Mem} (hc : chk m) : ∀ (items acc : List D),
    (∀ d ∈ items, ∀ K : DQ, K (f d) m → te (ρ.set i (some d)) m K) → acc.length + items.length ≤ sizeLine → q (acc ++ items.map f) m → compR chk (gNm i) dYes te ρ q items acc m
  | [], acc, _, _, h => by
    rw [List.map_nil, List.append_nil] at h
    exact ⟨hc, h⟩
  | d :: r, acc, hs, hz, h => by
    refine ⟨hc, ?_⟩
    show (if true = true then te (ρ.set i (some d)) m (fun y m4 => acc.length < sizeLine ∧ compR chk (gNm i) dYes te ρ q r (acc ++ [y]) m4) else compR chk (gNm i) dYes te ρ q r acc m)
    rw [if_pos rfl]
    refine hs d List.mem_cons_self _ ⟨by rw [List.length_cons] at hz; omega, comp_map f hc r (acc ++ [f d]) (fun e he => hs e (List.mem_cons_of_mem _ he)) (by rw [List.length_append, List.length_singleton]; rw [List.length_cons] at hz; omega) ?_⟩
    rw [List.append_assoc]
    exact h
/-- a loop with a word of its own: the invariant by the items left -/
theorem for_inv {chk : Mem → Prop} {g : DTG} {tb : DTS} {E : DEnds} (P : List D → DEnv → Mem → Prop) (hc : ∀ r ρ m, P r ρ m → chk m) (hn : ∀ ρ m, P [] ρ m → E.nx ρ m)
    (hs : ∀ d r ρ m, P (d :: r) ρ m → ∀ N : DEnv → Mem → Prop, (∀ ρ' m', P r ρ' m' → N ρ' m') → g d ρ m fun ρ2 m2 => tb { E with nx := dn N, ct := dn N, bk := E.nx } ρ2 m2) :
    ∀ (items : List D) ρ m, P items ρ m → forR chk g tb E items ρ m
  | [], ρ, m, h => ⟨hc _ _ _ h, hn ρ m h⟩
  | d :: r, ρ, m, h => ⟨hc _ _ _ h, hs d r ρ m h _ fun ρ' m' h' => for_inv P hc hn hs r ρ' m' h'⟩
theorem dn_here {N : DEnv → Mem → Prop} {ρ : DEnv} {m : Mem} (h : N ρ m) : dn N ρ m := ⟨m, Mem.le_refl m, h⟩
theorem dn_le {N : DEnv → Mem → Prop} {ρ : DEnv} {m m' : Mem} (l : m'.le m) (h : N ρ m') : dn N ρ m := ⟨m', l, h⟩

/-! ### ints as data -/
theorem pyWs_ints (f : Addr → Option PyData) : ∀ ns : List Int, pyWs f (ns.map D.int) = some (ns.map PyData.int)
  | [] => rfl
  | n :: ns => by simp only [List.map_cons, pyWs, pyW, pyWs_ints f ns]
theorem canLay_ints : ∀ ns : List Int, PyData.canLayAll0 (ns.map PyData.int) = true
  | [] => by simp [PyData.canLayAll0]
  | n :: ns => by simp [PyData.canLayAll0, PyData.canLay0, canLay_ints ns]
theorem depth_ints : ∀ ns : List Int, PyData.depthAll (ns.map PyData.int) = 0
  | [] => by simp [PyData.depthAll]
  | n :: ns => by simp [PyData.depthAll, PyData.depth, depth_ints ns]
theorem shaped_listInts (ns : List Int) : SeqAt.shaped (.list (ns.map PyData.int)) = true := by
  simp [SeqAt.shaped, PyData.canLay0, PyData.depth, canLay_ints, depth_ints]
theorem shaped_tupInts (ns : List Int) : SeqAt.shaped (.tuple (ns.map PyData.int)) = true := by
  simp [SeqAt.shaped, PyData.canLay0, PyData.depth, canLay_ints, depth_ints]
theorem eqvAll_ints : ∀ (ns ms : List Int), PyData.eqvAll (ns.map PyData.int) (ms.map PyData.int) = decide (ns = ms)
  | [], [] => by simp [PyData.eqvAll]
  | [], _ :: _ => by simp [PyData.eqvAll]
  | _ :: _, [] => by simp [PyData.eqvAll]
  | n :: ns, m :: ms => by
    rw [List.map_cons, List.map_cons, PyData.eqvAll, eqvAll_ints ns ms]
    by_cases h : n = m
    · subst h
      simp [PyData.eqv]
    · simp [PyData.eqv, h]
theorem eqLs_ints {ns ms : List Int} {m : Mem} {q : Bool → Prop} (h : q (decide (ns = ms))) : eqLs (ns.map D.int) (ms.map D.int) m q := by
  unfold eqLs
  rw [show pyDs m (ns.map D.int) = some (ns.map PyData.int) from pyWs_ints _ _, show pyDs m (ms.map D.int) = some (ms.map PyData.int) from pyWs_ints _ _]
  exact ⟨shaped_listInts ns, shaped_listInts ms, by rw [eqvAll_ints]; exact h⟩
theorem nilOk_ints {m : Mem} (ns : List Int) : ∃ ps, pyDs m (ns.map D.int) = some ps ∧ SeqAt.shaped (.list ps) = true := ⟨_, pyWs_ints _ _, shaped_listInts ns⟩

/-! ### turns -/
def isWhole : D → Bool
  | .int _ => true
  | _ => false
def betw (d : D) (i j : Int) : Bool := match d with
  | .int k => decide (i ≤ k) && decide (k ≤ j)
  | _ => false
def isTurnL (ns : List Int) : Bool := decide (2 ≤ ns.length) && decide (ns.length ≤ 4) && decide (ns.Perm (rngI ns.length))
def isTurnD : D → Bool
  | .tup xs => match intsOf xs with
    | some ns => isTurnL ns
    | none => false
  | .ftup xs => match intsOf xs with
    | some ns => isTurnL ns
    | none => false
  | _ => false
theorem intsOf_all {xs : List D} {i j : Int} (h : xs.all (fun d => betw d i j) = true) : ∃ ns, intsOf xs = some ns ∧ ∀ n ∈ ns, i ≤ n ∧ n ≤ j := by
  induction xs with
  | nil => exact ⟨[], rfl, fun _ h => by cases h⟩
  | cons d r ih =>
    rw [List.all_cons, Bool.and_eq_true] at h
    obtain ⟨ns, e, hn⟩ := ih h.2
    cases d with
    | int k =>
      have h1 : i ≤ k ∧ k ≤ j := by simpa [betw] using h.1
      refine ⟨k :: ns, by simp [intsOf, e], fun n hn' => ?_⟩
      rcases List.mem_cons.mp hn' with rfl | z
      · exact h1
      · exact hn n z
    | _ => simp [betw] at h
theorem all_of_ints {ns : List Int} {i j : Int} (h : ∀ n ∈ ns, i ≤ n ∧ n ≤ j) : (ns.map D.int).all (fun d => betw d i j) = true := by
  rw [List.all_eq_true]
  intro d hd
  obtain ⟨n, hn, rfl⟩ := List.mem_map.mp hd
  have := h n hn
  simp [betw, this]
theorem turn_bounds {ns : List Int} (h : isTurnL ns = true) : ∀ n ∈ ns, 0 ≤ n ∧ n < ns.length := by
  intro n hn
  simp only [isTurnL, Bool.and_eq_true, decide_eq_true_eq] at h
  have := h.2.mem_iff.mp hn
  exact mem_rngI.mp this
def sp_is_whole : DSp := sp1 fun d m q _ => kn m d ∧ q (.bl (isWhole d)) m
def sp_is_between : DSp := sp3 fun d l u m q _ => kn m d ∧ ∃ i j, l = .int i ∧ u = .int j ∧ q (.bl (betw d i j)) m
def knT (m : Mem) (d : D) : Prop := match d with
  | .tup xs => ∀ e ∈ xs, kn m e
  | .ftup xs => ∀ e ∈ xs, kn m e
  | d => kn m d
def sp_is_turn : DSp := sp1 fun d m q _ => knT m d ∧ q (.bl (isTurnD d)) m
end L2.Lh

/-! more plain lemmas over readings -/
namespace L2.Lh
open PySem PySem.Spec PyProof.Rows

/-- a comprehension with a word of its own -/
theorem comp_inv {chk : Mem → Prop} {g : DTG} {tt : DTT} {te : DTE} {ρ : DEnv} {q : List D → Mem → Prop} (P : List D → List D → Mem → Prop) (hc : ∀ r acc m, P r acc m → chk m) (hn : ∀ acc m, P [] acc m → q acc m)
    (hs : ∀ d r acc m, P (d :: r) acc m → ∀ N : List D → Mem → Prop, (∀ acc' m', P r acc' m' → N acc' m') → g d ρ m fun ρ2 m2 => tt ρ2 m2 fun b m3 => if b = true then te ρ2 m3 fun y m4 => acc.length < sizeLine ∧ N (acc ++ [y]) m4 else N acc m3) :
    ∀ (items acc : List D) m, P items acc m → compR chk g tt te ρ q items acc m
  | [], acc, m, h => ⟨hc _ _ _ h, hn acc m h⟩
  | d :: r, acc, m, h => ⟨hc _ _ _ h, hs d r acc m h _ fun acc' m' h' => comp_inv P hc hn hs r acc' m' h'⟩
theorem erase_perm : ∀ (l : List Int) (k : Nat) (h : k < l.length), (l[k] :: l.eraseIdx k).Perm l
  | x :: l, 0, _ => by simp
  | x :: l, k + 1, h => by
    simp only [List.getElem_cons_succ, List.eraseIdx_cons_succ]
    exact (List.Perm.swap _ _ _).trans ((erase_perm l k (by simpa using h)).cons x)
theorem pop_perm {l done : List Int} {n : List Int} {k : Nat} {x : Int} (h : (l ++ done).Perm n) (hk : l[k]? = some x) : (l.eraseIdx k ++ (done ++ [x])).Perm n := by
  obtain ⟨hlt, hx⟩ := List.getElem?_eq_some_iff.mp hk
  have h1 : (l[k] :: l.eraseIdx k).Perm l := erase_perm l k hlt
  rw [hx] at h1
  have h2 : (l.eraseIdx k ++ (done ++ [x])).Perm (x :: (l.eraseIdx k ++ done)) := by
    rw [← List.append_assoc]
    exact List.perm_append_comm
  exact h2.trans (((h1.append_right done)).trans h)
theorem seqIx {i : Int} {n : Nat} (h0 : 0 ≤ i) (h1 : i < n) : seqIndex? i n = some i.toNat := by
  unfold seqIndex?
  simp only [show ¬ i < 0 by omega, if_false]
  rw [if_pos (by simp [h0, h1])]
theorem rngD_length (lo : Int) (n : Nat) : (rngD lo n).length = n := by simp [rngD]
theorem cmulR (i : Int) {j : Int} (h : -(2 ^ 64) < j ∧ j < 2 ^ 64) : CMul i j := .inr h
theorem cmulL {i : Int} (j : Int) (h : -(2 ^ 64) < i ∧ i < 2 ^ 64) : CMul i j := .inl h
theorem cpow18 : CPow 10 18 := by refine ⟨by decide, by decide, by decide⟩
theorem Mem.set_none {m : Mem} {a b : Addr} {o : MO} (h : (m.set a o) b = none) : m b = none ∧ b ≠ a := by
  by_cases e : b = a
  · subst e; rw [Mem.set_same] at h; cases h
  · rw [Mem.set_ne e] at h; exact ⟨h, e⟩
theorem Mem.live_ne {m : Mem} {a b : Addr} {o : MO} (h : m a = some o) (h' : m b = none) : a ≠ b := fun e => by subst e; rw [h] at h'; cases h'
end L2.Lh

/-! defs under which no repr is under way; repr; keywords -/
namespace L2.Lh
open PySem PySem.Spec PyProof.Rows

/-- as FnOk, where no repr is under way -/
structure FnG (P : Program) (w : World) (K : PySem.W.Frag) (mg : Str → Option Value) (base : Heap) (k : Nat) (f : Addr) (fd : FuncData) (ps : List Str) (sp : Sp) : Prop where
  len : ∀ vs H Q E, sp vs H Q E → vs.length = ps.length
  run : ∀ (A : Around) (outer : List Env) (s : Shared) (H : Hp) (args : Args) (us : List Value) (vs : List V) (Q : VK) (E : XK), A.guards = some [] → Room k A → Env0 P w K mg base A outer s H →
    BindsTo s fd args (ps.zip us) → Vals vs us → sp vs H Q E → codeAny (model P w) A (.call (.ref f) args) (CR (L2.CX P w) outer P w H s Q E) s
theorem FnG.of {P : Program} {w : World} {K : PySem.W.Frag} {mg : Str → Option Value} {base : Heap} {k : Nat} {f : Addr} {fd : FuncData} {ps : List Str} {sp : Sp} (F : FnOk P w K mg base (L2.CX P w) k f fd ps sp) : FnG P w K mg base k f fd ps sp :=
  ⟨F.len, fun A outer s H args us vs Q E _ hr e b r h => F.run A outer s H args us vs Q E hr e b r h⟩
section
variable {P : Program} {w : World} {K : PySem.W.Frag} {mg : Str → Option Value} {base : Heap}
/-- a def by its body -/
theorem fnG_body {x qual : Str} {st : Stmt} {f : Addr} {fd : FuncData} {N ps : List Str} {k : Nat} {sp : Sp} (F : Fun K x qual st f fd) (S : FnScope N ps (defScope st)) (len : ∀ vs H Q E, sp vs H Q E → vs.length = ps.length)
    (body : ∀ (cdv : Value) (A : Around) (outer : List Env) (s : Shared) (H : Hp) (vs : List V) (Q : VK) (E : XK), A.guards = some [] → Room k (A.deeper (envOfC qual (defScope st) s.heap.objs.size f cdv)) → sp vs H Q E →
      ∃ t, PSs (cxOf (L2.CX P w) P w K mg base N qual (defScope st) f cdv A outer s H E) (defBody st) t ∧ t { nx := fun _ H' => Q .non H', rt := Q } (start N vs) H) : FnG P w K mg base (k + 1) f fd ps sp := by
  obtain ⟨oc, od, kV, doc, pm, an, cdv, ct, osl, rfl, lk, hcd⟩ := F.ex
  constructor
  · exact len
  intro A outer s H args us vs Q E hgd hr e0 hb r hsp
  have KX : K.In s.heap := e0.mod.kin.keeps fun b o e => (e0.bs b o e).1
  have lim : s.heap.NoLimit := e0.mod.nolimit.keeps fun b o e => (e0.bs b o e).1
  refine codeAny_call_function hr.depth (KX _ _ lk) rfl S.co S.gen rfl (PySem.W.codeRec_of KX hcd) (hb _ _ _ _ ?_)
  have kinds : ∀ y ∈ ps.zip us, (defScope st).names.lookup y.1 = some .local ∨ ((defScope st).names.lookup y.1 = some .cell ∧ ((cellsFrom (s.heap.objs.size + 1) (defScope st).names []).lookup y.1).isSome = true) := by
    intro y hy
    cases S.par y.1 (List.of_mem_zip hy).1 with
    | inl q => exact .inl q
    | inr q => exact .inr ⟨q, PySem.W.cellsFrom_some _ _ _ (.inl q)⟩
  refine wpAny_newFunctionEnv_cells S.kind kinds fun env he s1 inc => ?_
  cases he
  obtain ⟨t, ht, hq⟩ := body cdv A outer s H vs Q E hgd (hr.deeper _) hsp
  have I := inv_start (CX := L2.CX P w) (E := E) (N := N) S hr.hd e0 (len _ _ _ _ hsp) r inc
  refine ⟨lim.keeps inc.toInCall.keep, codeAny_func (wpAny_mono (ht.run [] s1 (start N vs) H _ I hq) (fun fl s' hs => ?_) fun _ _ z => z)⟩
  match fl, hs with
  | .ret u, ⟨v, σ', H', J, rv, q⟩ => exact ⟨v, H', J.os, J.bare, J.base, J.hok, rv, q⟩
  | .next, ⟨σ', H', J, q⟩ => exact ⟨.non, H', J.os, J.bare, J.base, J.hok, rfl, q⟩
  | .brk, ⟨_, _, _, q⟩ => exact q.elim
  | .cont, ⟨_, _, _, q⟩ => exact q.elim
abbrev FnDG (P : Program) (w : World) (K : PySem.W.Frag) (mg : Str → Option Value) (base : Heap) (k : Nat) (f : Addr) (fd : FuncData) (ps : List Str) (sp : DSp) : Prop := FnG P w K mg base k f fd ps (upSp K sp)
theorem fnDG_of {x qual : Str} {st : Stmt} {f : Addr} {fd : FuncData} {N ps : List Str} {k : Nat} {sp : DSp} (F : Fun K x qual st f fd) (S : FnScope N ps (defScope st)) (len : ∀ {ds m q qe}, sp ds m q qe → ds.length = ps.length)
    (body : ∀ (cdv : Value) (A : Around) (outer : List Env) (s : Shared) (H : Hp) (E : XK) (B : Bs) (qe : Value → Mem → Prop),
      Room k (A.deeper (envOfC qual (defScope st) s.heap.objs.size f cdv)) → (cxOf (L2.CX P w) P w K mg base N qual (defScope st) f cdv A outer s H E).A.guards = some [] →
      Takes (cxOf (L2.CX P w) P w K mg base N qual (defScope st) f cdv A outer s H E) (upW K B fun cls _ m => qe cls m) →
      PassesOwn (model P w) (cxOf (L2.CX P w) P w K mg base N qual (defScope st) f cdv A outer s H E).A (cxOf (L2.CX P w) P w K mg base N qual (defScope st) f cdv A outer s H E).env (cxOf (L2.CX P w) P w K mg base N qual (defScope st) f cdv A outer s H E).xe →
      ∃ t, DSs B (cxOf (L2.CX P w) P w K mg base N qual (defScope st) f cdv A outer s H E) (defBody st) t ∧ ∀ ds m q, sp ds m q qe → t (defEnds q) (startD N ds) m) : FnDG P w K mg base (k + 1) f fd ps sp := by
  refine fnG_body F S (fun vs H Q E h => ?_) (fun cdv A outer s H vs Q E hgd hr h => ?_)
  · obtain ⟨ds, m, q, qe, r, _, h, _⟩ := h
    rw [← r.length]
    exact len h
  · obtain ⟨ds, m, q, qe, r, sim, h, post, hE⟩ := h
    have tk : Takes (cxOf (L2.CX P w) P w K mg base N qual (defScope st) f cdv A outer s H E) (upW K ⟨H, m⟩ fun cls _ m => qe cls m) :=
      (takes_of (E := E) rfl rfl rfl rfl).imp fun cls d σ H' ⟨c, ⟨e1, e2⟩, ρ, m', p, q'⟩ => by
        subst e1 e2
        exact hE c m' H' q' p.sim p.st
    obtain ⟨t, ht, hq⟩ := body cdv A outer s H E ⟨H, m⟩ qe hr hgd tk (passes_of (K := fun e s'' => L2.CX P w outer H s E e s'') rfl)
    refine ⟨_, ht, startD N ds, m, defEnds q, ⟨start_ok r, sim, Step.refl _ _⟩, hq ds m q h, ?_⟩
    exact ⟨fun ρ' m' σ' H' ⟨m2, hle, hq⟩ env s2 st => post .non m2 .non H' hq .non (s2.forget hle) (st.forget hle), fun d m' v H' ⟨m2, hle, hq⟩ rd s2 st => post d m2 v H' hq rd (s2.forget hle) (st.forget hle),
      fun _ _ _ _ z => False.elim z, fun _ _ _ _ z => False.elim z⟩
end
/-- a def as it is called, where no repr is under way -/
structure DefG (P : Program) (w : World) (K : PySem.W.Frag) (mg : Str → Option Value) (base : Heap) (k : Nat) (x : Str) (ps : List Str) (sp : DSp) where
  f : Addr
  fd : FuncData
  ok : FnDG P w K mg base k f fd ps sp
  g : mg x = some (.ref f)
  kp : PySem.W.keepIn K (.ref f) = true
  b : Binds K fd ps []
section
variable {X : Cx} {B : Bs} {k : Nat} {ps : List Str} {sp : DSp} {we : DWX} {x : Str} {p pos : Pos} {e : Expr} {es : List Expr} {t : DTA}
theorem run_G {f : Addr} {fd : FuncData} {E : XK} {pins : List (Addr × Obj)} {σ : St} {H : Hp} {s : Shared} {Q : VK} {args : Args} {us : List Value} {vs : List V} {sp : Sp} (F : FnG X.prog X.w X.K X.mg X.base k f fd ps sp) (hgd : X.A.guards = some []) (hr : Room k X.A)
    (I : Inv X pins σ H s) (hx : PassesAt (L2.CX X.prog X.w) X σ E) (b : BindsTo s fd args (ps.zip us)) (r : Vals vs us) (h : sp vs H Q E) : codeAny (model X.prog X.w) X.A (.call (.ref f) args) (fun r s' => match r with | .ok (.ret u) => EP X pins σ Q u s' | .ok _ => False | .error e => X.xe e s') s := by
  refine codeAny_mono (F.run X.A X.stack s H args us vs Q E hgd hr I.env0 b r h) fun r s' hq => ?_
  match r, hq with
  | .error e, hq => exact hx pins H s e s' I hq
  | .ok (.ret u), hq => exact I.after hq
  | .ok .next, hq => exact False.elim hq
  | .ok .brk, hq => exact False.elim hq
  | .ok .cont, hq => exact False.elim hq
theorem de_callG (d : DefG X.prog X.w X.K X.mg X.base k x ps sp) (hgd : X.A.guards = some []) (hr : Room k X.A) (hg : Gl X x) (tk : Takes X (upW X.K B we)) (ha : DA B X (e :: es) t) (hdb : (x == ("__debug__" : Str)) = false := by decide)
    (he : starEach (e :: es) X.env = (false, eval e X.env) :: starEach es X.env := by rfl) (hpl : (backTo pos (starEach es X.env)).any (·.1) = false := by rfl) : DE B X (.Call (.Name x p) (e :: es) [] pos) (dCall sp we t) := by
  refine pe_imp (t := tCallS (upSp X.K sp) (WE (upW X.K B we)) (upA X.K B t)) ⟨fun pins s σ H Q I h => ?_⟩ call_lift
  refine wpAny_Call_Name_kw (ld_glob I hg d.g ?_ hdb)
  refine PySem.W.callWith_K (h₀ := X.base) I.ok.mod.kin d.kp (thn (ha.run pos pins s σ H _ I h) fun us s1 ⟨vs, H1, I1, r, q⟩ => ⟨I1.kIn, ?_⟩) he hpl
  have hl : us.length = ps.length := by rw [← r.length]; exact d.ok.len _ _ _ _ q
  have b := d.b s1 us I1.kIn (by rw [List.append_nil]; exact hl)
  rw [List.append_nil] at b
  exact wpAny_call (codeAny_mono (run_G d.ok hgd hr I1 (passAt tk σ) b r q) fun r s' z => by
    match r, z with
    | .error e, z => exact z
    | .ok (.ret u), z => exact z
    | .ok .next, z => exact z.elim
    | .ok .brk, z => exact z.elim
    | .ok .cont, z => exact z.elim)
end

/-! ### the end -/
end L2.Lh

/-! repr, min, max, remove, keyword calls -/
namespace L2.Lh
open PySem PySem.Spec PyProof.Rows

theorem reps_ints {K : PySem.W.Frag} {H : Hp} : ∀ {ns : List Int} {vs : List V}, Reps K H (ns.map D.int) vs → vs = ns.map V.int
  | [], _, r => by cases r; rfl
  | n :: ns, _, r => by
    cases r with
    | cons a b => cases a; rw [List.map_cons, reps_ints b]
/-! ### repr -/
def reprOf (d : D) (m : Mem) (q : DQ) : Prop := match pyD m d with
  | some p => p.showable = true ∧ p.hasDict = false ∧ p.depth ≤ 50 ∧ p.shown.length ≤ sizeLine ∧ q (.str p.shown) m
  | none => False
def reprD : DRC
  | [.int i], m, q => i.natAbs.log2 < 1920 ∧ q (.str (toString i)) m
  | [.tup xs], m, q => reprOf (.tup xs) m q
  | [.ftup xs], m, q => reprOf (.ftup xs) m q
  | [.ref a], m, q => reprOf (.ref a) m q
  | [.rol xs], m, q => reprOf (.rol xs) m q
  | _, _, _ => False
section
variable {X : Cx}
/-! .. of a list just made -/
end

/-! ### min, max of ints -/
section
variable {prog : Program} {w : World} {A : Around} {E : Value → Shared → Prop} {s : Shared} {Q : Value → Shared → Prop} {l : Addr} {its : List Value} {ns : List Int}
end
def minD : DRC
  | [d], m, q => match itemsOf m d with
    | some xs => match intsOf xs with
      | some ns => 0 < ns.length ∧ ∀ k, k ∈ ns → (∀ y ∈ ns, k ≤ y) → q (.int k) m
      | none => False
    | none => False
  | _, _, _ => False
section
variable {X : Cx} {B : Bs}
/-! ### o.remove(k) that finds k -/
end
/-! ### a call, every argument a keyword -/
section
variable {X : Cx} {B : Bs} {k : Nat} {ps ks : List Str} {ix : List Nat} {sp : DSp} {we : DWX} {x : Str} {p pos kpos : Pos} {e : Expr} {kws : List Keyword} {te : DTE} {t : DTA} {f : Addr} {fd : FuncData} {nm : Option Str}
/-- keywords' values -/
abbrev DK (B : Bs) (X : Cx) (kws : List Keyword) (t : DTA) : Prop := PK X kws (upA X.K B t)
theorem dk_nil : DK B X [] dNil := ⟨fun pos pins s σ H Q I h => pk_nil.run pos pins s σ H Q I (let ⟨ρ, m, q, p, h, post⟩ := h; post [] m [] H h .nil p.sim (Step.refl _ _))⟩
theorem dk_cons (ha : DE B X e te) (hr : DK B X kws t) : DK B X (⟨nm, e, kpos⟩ :: kws) (dCons te t) := ⟨fun pos pins s σ H Q I h => (pk_cons ha hr).run pos pins s σ H Q I (let ⟨ρ, m, q, p, h, post⟩ := h; ⟨ρ, m, _, p, h, fun d m1 v H1 h1 r1 s1 t1 => ⟨ρ, m1, _, p.next s1 t1, h1, fun ds m2 vs H2 h2 r2 s2 t2 => post (d :: ds) m2 (v :: vs) H2 h2 (.cons (r1.mono t2.ext) r2) s2 (t1.trans t2)⟩⟩)⟩
def dCallK (sp : DSp) (we : DWX) (n : Nat) (ix : List Nat) (t : DTA) : DTE := fun ρ m q => t ρ m fun ds m1 => ds.length = n ∧ sp (ix.map fun i => ds.getD i .non) m1 q fun cls m2 => we cls ρ m2
end
end L2.Lh

/-! readings at known things: equations -/
namespace L2.Lh
open PySem PySem.Spec PyProof.Rows
section
variable {m : Mem} {q : DQ} {i j : Int} {x y : Str} {xs ys : List D} {a b : Addr} {d : D} {ds : List D}
theorem addD_ii : addD (.int i) (.int j) m q = q (.int (i + j)) m := rfl
theorem addD_ss : addD (.str x) (.str y) m q = (x.length + y.length ≤ sizeLine ∧ q (.str (x ++ y)) m) := rfl
theorem addD_tt : addD (.tup xs) (.tup ys) m q = (xs.length + ys.length ≤ sizeLine ∧ q (.tup (xs ++ ys)) m) := rfl
theorem addD_rr : addD (.ref a) (.ref b) m q = ∃ xs ys, m a = some (.lst xs) ∧ m b = some (.lst ys) ∧ xs.length + ys.length ≤ sizeLine ∧ ∀ p, m p = none → q (.ref p) (m.set p (.lst (xs ++ ys))) := rfl
theorem iiD_ii {C : Int → Int → Prop} {g : Int → Int → D} : iiD C g (.int i) (.int j) m q = (C i j ∧ q (g i j) m) := rfl
theorem ii0_ii {g : Int → Int → D} : ii0 g (.int i) (.int j) m q = q (g i j) m := rfl
theorem mulD_ii : mulD (.int i) (.int j) m q = (CMul i j ∧ q (.int (i * j)) m) := rfl
theorem mulD_ri : mulD (.ref a) (.int j) m q = ∃ xs, m a = some (.lst xs) ∧ -(2 ^ 63) ≤ j ∧ j < 2 ^ 63 ∧ xs.length * j.toNat ≤ sizeLine ∧ ∀ p, m p = none → q (.ref p) (m.set p (.lst (List.replicate j.toNat xs).flatten)) := rfl
theorem mulD_ti : mulD (.tup xs) (.int j) m q = (xs ≠ [] ∧ 2 ≤ j ∧ j ≤ 1000 ∧ xs.length ≤ 1000 ∧ q (.tup (List.replicate j.toNat xs).flatten) m) := rfl
theorem negD_i : negD (.int i) m q = q (.int (-i)) m := rfl
theorem absD_i : absD [.int i] m q = q (.int (if i < 0 then -i else i)) m := rfl
theorem max2D_ii : max2D [.int i, .int j] m q = q (.int (if j > i then j else i)) m := rfl
theorem min2D_ii : min2D [.int i, .int j] m q = q (.int (if j < i then j else i)) m := rfl
theorem eqD_ii : eqD (.int i) (.int j) m q = q (.bl (i == j)) m := rfl
theorem neD_ii : neD (.int i) (.int j) m q = q (.bl (!(i == j))) m := rfl
theorem eqD_ss : eqD (.str x) (.str y) m q = q (.bl (decide (x = y))) m := rfl
theorem neD_ss : neD (.str x) (.str y) m q = q (.bl (!decide (x = y))) m := rfl
theorem reprD_i : reprD [.int i] m q = (i.natAbs.log2 < 1920 ∧ q (.str (toString i)) m) := rfl
theorem reprD_t : reprD [.tup xs] m q = reprOf (.tup xs) m q := rfl
theorem reprD_f : reprD [.ftup xs] m q = reprOf (.ftup xs) m q := rfl
theorem reprD_r : reprD [.ref a] m q = reprOf (.ref a) m q := rfl
theorem reprD_o : reprD [.rol xs] m q = reprOf (.rol xs) m q := rfl
theorem itemsOf_t : itemsOf m (.tup xs) = some xs := rfl
theorem itemsOf_f : itemsOf m (.ftup xs) = some xs := rfl
theorem itemsOf_o : itemsOf m (.rol xs) = some xs := rfl
theorem itemsOf_r (h : m a = some (.lst xs)) : itemsOf m (.ref a) = some xs := by unfold itemsOf; dsimp only; rw [h]
theorem itemsL_o : itemsL m (.rol xs) = some xs := rfl
theorem itemsL_r (h : m a = some (.lst xs)) : itemsL m (.ref a) = some xs := by unfold itemsL; dsimp only; rw [h]
theorem lenD_t : lenD [.tup xs] m q = q (.int xs.length) m := rfl
theorem lenD_f : lenD [.ftup xs] m q = q (.int xs.length) m := rfl
theorem lenD_o : lenD [.rol xs] m q = q (.int xs.length) m := rfl
theorem lenD_s : lenD [.str x] m q = (x.length ≤ sizeLine ∧ q (.int x.length) m) := rfl
theorem lenD_r (h : m a = some (.lst xs)) : lenD [.ref a] m q = q (.int xs.length) m := by
  show (match itemsOf m (.ref a) with | some xs => q (.int xs.length) m | none => False) = _
  rw [itemsOf_r h]
theorem tupleD_t : tupleD [.tup xs] m q = q (.tup xs) m := rfl
theorem tupleD_f : tupleD [.ftup xs] m q = q (.ftup xs) m := rfl
theorem tupleD_o : tupleD [.rol xs] m q = q (.tup xs) m := rfl
theorem tupleD_r (h : m a = some (.lst xs)) : tupleD [.ref a] m q = q (.tup xs) m := by
  show (match itemsOf m (.ref a) with | some xs => q (.tup xs) m | none => False) = _
  rw [itemsOf_r h]
theorem listD_t {q : List D → Mem → Prop} : listD (.tup xs) m q = q xs m := rfl
theorem listD_f {q : List D → Mem → Prop} : listD (.ftup xs) m q = q xs m := rfl
theorem listD_o {q : List D → Mem → Prop} : listD (.rol xs) m q = q xs m := rfl
theorem listD_r {q : List D → Mem → Prop} (h : m a = some (.lst xs)) : listD (.ref a) m q = q xs m := by unfold listD; rw [itemsOf_r h]
theorem minD_t : minD [.tup xs] m q = (match intsOf xs with | some ns => 0 < ns.length ∧ ∀ k, k ∈ ns → (∀ y ∈ ns, k ≤ y) → q (.int k) m | none => False) := rfl
theorem ixD_t (h : atI xs i = some d) : ixD (.tup xs) (.int i) m q = q d m := by unfold ixD; dsimp only [itemsOf]; rw [h]
theorem ixD_r (h1 : m a = some (.lst xs)) (h : atI xs i = some d) : ixD (.ref a) (.int i) m q = q d m := by unfold ixD; dsimp only; rw [itemsOf_r h1]; dsimp only; rw [h]
theorem slD_t {lo hi : Option Int} : slD (.tup xs) lo hi m q = q (.tup (cutL xs lo hi)) m := rfl
theorem slD_o {lo hi : Option Int} : slD (.rol xs) lo hi m q = ∀ p, m p = none → q (.ref p) (m.set p (.lst (cutL xs lo hi))) := rfl
theorem itOf_t {q : Itd → Prop} : itOf m (.tup xs) q = q ⟨xs, fun _ => True⟩ := rfl
theorem itOf_f {q : Itd → Prop} : itOf m (.ftup xs) q = q ⟨xs, fun _ => True⟩ := rfl
theorem itOf_o {q : Itd → Prop} : itOf m (.rol xs) q = q ⟨xs, fun _ => True⟩ := rfl
theorem itOf_r {q : Itd → Prop} (h : m a = some (.lst xs)) : itOf m (.ref a) q = q ⟨xs, fun m' => m' a = some (.lst xs)⟩ := by unfold itOf; dsimp only; rw [h]
theorem sortD_f {q : List D → Mem → Prop} : sortD (.ftup xs) m q = (match intsOf xs with | some ns => ns.length < 64 ∧ ∀ ns' : List Int, ns'.Perm ns → ns'.Pairwise (· ≤ ·) → q (ns'.map D.int) m | none => False) := rfl
theorem sortD_t {q : List D → Mem → Prop} : sortD (.tup xs) m q = (match intsOf xs with | some ns => ns.length < 64 ∧ ∀ ns' : List Int, ns'.Perm ns → ns'.Pairwise (· ≤ ·) → q (ns'.map D.int) m | none => False) := rfl
theorem appendD_r {v : D} (h : m a = some (.lst xs)) : appendD (.ref a) [v] m q = (xs.length < sizeLine ∧ q .non (m.set a (.lst (xs ++ [v])))) := by
  unfold appendD
  dsimp only
  rw [h]
  simp
theorem isi_int_int : isiD [.int i, .ty "int"] m q = q (.bl true) m := rfl
theorem isi_int_bool : isiD [.int i, .ty "bool"] m q = q (.bl false) m := rfl
theorem isi_int_tuple : isiD [.int i, .ty "tuple"] m q = q (.bl false) m := rfl
theorem isi_tup_tuple : isiD [.tup xs, .ty "tuple"] m q = q (.bl true) m := rfl
theorem isi_ftup_tuple : isiD [.ftup xs, .ty "tuple"] m q = q (.bl true) m := rfl
theorem isi_tup_list : isiD [.tup xs, .ty "list"] m q = q (.bl false) m := rfl
theorem isi_tup_int : isiD [.tup xs, .ty "int"] m q = q (.bl false) m := rfl
theorem truD_b {c : Bool} : truD (.bl c) m = some c := rfl
theorem truD_t : truD (.tup xs) m = some (!xs.isEmpty) := rfl
theorem gTp_t {n : Nat} {t : DTGs} {ρ : DEnv} {q : DEnv → Mem → Prop} : gTp n t (.tup xs) ρ m q = (xs.length = n ∧ t xs ρ m q) := rfl
theorem gCn_c {t : DTG} {u : DTGs} {ρ : DEnv} {q : DEnv → Mem → Prop} : gCn t u (d :: ds) ρ m q = t d ρ m fun ρ' m' => u ds ρ' m' q := rfl
theorem gNl_n {ρ : DEnv} {q : DEnv → Mem → Prop} : gNl [] ρ m q = q ρ m := rfl
end
end L2.Lh

/-! instances, tuple.index -/
namespace L2.Lh
open PySem PySem.Spec PyProof.Rows

/-! ### t.index(k) that finds k -/
section
variable {X : Cx} {B : Bs} {o e : Expr} {es : List Expr} {to te : DTE} {t : DTA} {apos cpos pos : Pos}
end
/-! ### instances -/
def putFD (f : Str) (v : D) : List (Str × D) → List (Str × D)
  | [] => [(f, v)]
  | (g, x) :: r => if g = f then (g, v) :: r else (g, x) :: putFD f v r
theorem RepF.put {K : PySem.W.Frag} {H : Hp} {f : Str} {d : D} {v : V} (r : Rep K H d v) : ∀ {fs : List (Str × D)} {fv : List (Str × V)}, RepF K H fs fv → RepF K H (putFD f d fs) (putF f v fv)
  | _, _, .nil => .cons ⟨rfl, r⟩ .nil
  | (g, x) :: fs, (g', x') :: fv, .cons ⟨e, q⟩ rest => by
    have e : g = g' := e
    subst e
    unfold putFD putF
    by_cases z : g = f
    · rw [if_pos z, if_pos z]; exact .cons ⟨rfl, r⟩ rest
    · rw [if_neg z, if_neg z]; exact .cons ⟨rfl, q⟩ (RepF.put r rest)
theorem RepF.look {K : PySem.W.Frag} {H : Hp} {f : Str} : ∀ {fs : List (Str × D)} {fv : List (Str × V)} {d : D}, RepF K H fs fv → fs.lookup f = some d → ∃ v, fv.lookup f = some v ∧ Rep K H d v
  | _, _, _, .nil, e => by cases e
  | (g, x) :: fs, (g', x') :: fv, d, .cons ⟨eg, q⟩ rest, e => by
    have eg : g = g' := eg
    subst eg
    rw [List.lookup_cons] at e ⊢
    cases z : (f == g) with
    | true => rw [z] at e; cases e; exact ⟨x', rfl, q⟩
    | false => rw [z] at e; exact RepF.look rest e
theorem RepF.len {K : PySem.W.Frag} {H : Hp} {fs : List (Str × D)} {fv : List (Str × V)} (r : RepF K H fs fv) : fs.length = fv.length := Paired.length r
section
variable {X : Cx} {B : Bs} {o e value : Expr} {es : List Expr} {to te : DTE} {t : DTA} {f : Str} {apos cpos pos pos' : Pos} {C : Addr}
end
/-- a method of the text as it is called -/
structure MethAt (P : Program) (w : World) (K : PySem.W.Frag) (mg : Str → Option Value) (base : Heap) (k : Nat) (C : Addr) (mn : Str) (ps : List Str) (sp : DSp) where
  f : Addr
  fd : FuncData
  ok : FnD P w K mg base k f fd ps sp
  me : Meth K C mn f
  b : Binds K fd ps []
section
variable {X : Cx} {B : Bs} {o e : Expr} {es : List Expr} {to : DTE} {t : DTA} {sp : DSp} {we : DWX} {mn : Str} {apos pos : Pos} {C : Addr} {k : Nat} {ps : List Str}
end
section
variable {X : Cx} {B : Bs} {e : Expr} {es : List Expr} {t : DTA} {sp : DSp} {qe : Value → Mem → Prop} {x : Str} {p pos : Pos} {C : Addr} {k : Nat} {ps : List Str}
end
end L2.Lh

/-! tuples whose very object is known; what the memory holds, by grind -/
namespace L2.Lh
open PySem PySem.Spec PyProof.Rows
section
variable {X : Cx} {B : Bs}
/-- tuple(range(n)) -/
def dTupRgF (ta : DTE) : DTE := fun ρ m q => dRg1 ta (fun ds m' => q (.ftup ds) m') ρ m
theorem de_tupRgF1 {a : Expr} {ta : DTE} {p p2 pos pos2 : Pos} (hc : X.calm = true) (hg : Gl X "tuple") (hm : X.mg "tuple" = none) (hg2 : Gl X "range") (hm2 : X.mg "range" = none) (ha : DE B X a ta)
    (na : starEach [a] X.env = (false, eval a X.env) :: starEach [] X.env := by rfl) (ne : starEach [Expr.Call (.Name "range" p2) [a] [] pos2] X.env = (false, eval (.Call (.Name "range" p2) [a] [] pos2) X.env) :: starEach [] X.env := by rfl) :
    DE B X (.Call (.Name "tuple" p) [.Call (.Name "range" p2) [a] [] pos2] [] pos) (dTupRgF ta) := by
  refine ⟨fun pins s σ H Q I ⟨ρ, m, q, p, h, post⟩ => ?_⟩
  have he := prg_1 hg2 hm2 ha na (pos := pos2) (p := p2)
  refine Call_ (ld_blt I hg hm boot_tuple (PyProof.Rows.callWith_type1 (args_cons (thn (he pins s σ H (fun a b H1 => a = 0 ∧ ∃ m1 n, b = n ∧ Sim X.K H1 m1 ∧ Step H m H1 m1 ∧ RgOk 0 n ∧ q (.ftup (rngD 0 n.toNat)) m1) I ⟨ρ, m, _, p, h, fun d m1 v H1 h1 r1 s1 t1 => by
    cases d with
    | int n => cases r1; exact ⟨n, rfl, rfl, m1, n, rfl, s1, t1, h1.1, h1.2⟩
    | _ => exact (show False from h1).elim⟩) fun x s1 ⟨r, a, b, t, u, v, H1, ex, hr, I1, ea, m1, n, eb, sm, st, ok, hq⟩ => args_nil ?_) ne) ne))
  subst ex ea eb
  obtain ⟨b1, b2, b3, b4, b5⟩ := ok
  refine call_tuple_range (n := (b - 0).toNat) (I1.ok.hd hc) hr (small_one b1 b2 b3 b4) (rangeSize_nat 0 b) b5 fun h' tk acc hk hi => ?_
  have I2 : Inv X pins σ H1 { s1 with heap := h', toks := tk } := I1.kept hk
  have nw : H1 h'.objs.size = none := I2.hok.fresh (Nat.le_refl _)
  have rr : Reps X.K H1 (rngD 0 b.toNat) (rgV 0 b) := by
    rw [rgV_eq, Int.sub_zero]
    exact reps_rng 0 _
  refine ⟨.ref h'.objs.size, upd H1 h'.objs.size (.frz { cls := .type "tuple", data := .seq acc } (.tup (rgV 0 b))), I2.laid (t' := tk) (fun c o e => Heap.get?_push_of_some _ e) (Nat.le_refl _) (show ObjOk X.prog X.w _ _ _ (.frz _ (.tup (rgV 0 b))) from ⟨Heap.get?_push_size _ rfl, ?_, acc.toList, vals_rg hi, ?_⟩), rfl,
    post (.ftup (rngD 0 b.toNat)) m1 _ _ hq (.ftup upd_same rfl (rr.mono (upd_new nw))) (sm.alloc nw) (st.trans (Step.alloc nw))⟩
  · rw [rgV_length, sizeLine_eq]; omega
  · rw [Array.toArray_toList]; exact IsTup.new _ _
/-- tuple(xs) of a list -/
def ftupleD : DRC
  | [.ftup xs], m, q => q (.ftup xs) m
  | [.ref a], m, q => match m a with
    | some (.lst xs) => q (.ftup xs) m
    | _ => False
  | _, _, _ => False
theorem ftupleD_f {xs : List D} {m : Mem} {q : DQ} : ftupleD [.ftup xs] m q = q (.ftup xs) m := rfl
theorem ftupleD_r {a : Addr} {xs : List D} {m : Mem} {q : DQ} (h : m a = some (.lst xs)) : ftupleD [.ref a] m q = q (.ftup xs) m := by
  unfold ftupleD; dsimp only; rw [h]
theorem c_ftuple : CallD X (.type "tuple") ftupleD := by
  intro pins s σ H xs us Q I r ⟨ds, m, q, rs, sim, h, post⟩
  unfold ftupleD at h
  split at h
  · obtain ⟨v, rfl, rv⟩ := reps1 rs
    cases rv with
    | ftup h1 n1 q1 => exact call_tuple_of pins s σ H _ us Q I r ⟨_, _, rfl, .inr ⟨.inl (.inr ⟨_, h1⟩), post.here h (.ftup h1 n1 q1) sim⟩⟩
  · rename_i a
    split at h
    · rename_i ys q2
      obtain ⟨v, rfl, rv⟩ := reps1 rs
      cases rv
      obtain ⟨vs, hv, rr⟩ := sim a _ q2
      rw [Vals.ref1 r]
      obtain ⟨its, rv, pl, hz⟩ := I.list (SqL.of hv)
      refine call_tuple_list pl.isList (fun h' hk => ?_) (by rw [List.size_toArray, ← rv.length]; exact hz)
      have I1 : Inv X pins σ H { s with heap := h' } := I.kept (t' := s.toks) hk
      have nw : H h'.objs.size = none := I1.hok.fresh (Nat.le_refl _)
      have I2 : Inv X pins σ (upd H h'.objs.size (.frz { cls := .type "tuple", data := .seq its.toArray } (.tup vs))) { s with heap := h'.push { cls := .type "tuple", data := .seq its.toArray } } :=
        I1.laid (t' := s.toks) (fun b o e => Heap.get?_push_of_some _ e) (Nat.le_refl _) (show ObjOk X.prog X.w _ _ _ (.frz _ (.tup vs)) from ⟨Heap.get?_push_size _ rfl, hz, its, rv, IsTup.new _ _⟩)
      exact ⟨.ref h'.objs.size, _, I2, rfl, post (.ftup ys) m _ _ h (.ftup upd_same rfl (rr.mono (upd_new nw))) (sim.alloc nw) (Step.alloc nw)⟩
    · exact h.elim
  · exact h.elim
end
end L2.Lh

/-! dicts: keys that are ints and texts (dK), keys that are tuples, nested (dN) -/
namespace L2.Lh
open PySem PySem.Spec PyProof.Rows

/-! ### association lists -/
section
variable {κ β : Type} [DecidableEq κ]
def valG (kvs : List (κ × β)) (k : κ) : Option β := (kvs.find? fun kv => decide (kv.1 = k)).map (·.2)
def putG (kvs : List (κ × β)) (k : κ) (v : β) : List (κ × β) :=
  if (valG kvs k).isSome then kvs.map (fun kv => if kv.1 = k then (kv.1, v) else kv) else kvs ++ [(k, v)]
theorem valG_nil (k : κ) : valG ([] : List (κ × β)) k = none := rfl
theorem valG_cons (p : κ × β) (r : List (κ × β)) (k : κ) : valG (p :: r) k = if p.1 = k then some p.2 else valG r k := by
  unfold valG
  by_cases h : p.1 = k <;> simp [List.find?_cons, h]
theorem putG_new {kvs : List (κ × β)} {k : κ} (v : β) (h : valG kvs k = none) : putG kvs k v = kvs ++ [(k, v)] := by unfold putG; rw [h]; rfl
end

/-! ### keys -/
theorem isTup_at {h : Heap} {a : Addr} {vs : Array Value} (t : IsTup h a vs) : ∃ o, h.get? a = some o ∧ o.cls = .type "tuple" ∧ ∃ n, o.data = .seq vs n := t
mutual
theorem nested_of {P : Program} {w : World} {K : PySem.W.Frag} {H : Hp} {h : Heap} (hok : HOk P w H h) : ∀ {d : D} {v : V} {u : Value} {k : NestedKey}, Rep K H d v → keyN d = some k → RelV v u → NestedIs h k u
  | _, _, _, _, .non, e, r => by cases e; cases r; exact .none
  | _, _, _, _, .bl b, e, r => by cases e
  | _, _, _, _, .int i, e, r => by cases e; obtain ⟨t, rfl⟩ := r; exact .int i t
  | _, _, _, _, .str x, e, r => by cases e
  | _, _, _, _, .ty x, e, r => by cases e
  | _, _, _, _, .ref x, e, r => by cases e
  | _, _, _, _, .rol _ _, e, r => by cases e
  | .tup xs, _, _, _, .tup (a := a) (vs := vs) g rs, e, r => by
    cases r
    rw [keyN] at e
    cases q : keyNs xs with
    | none => rw [q] at e; cases e
    | some ks =>
      rw [q] at e; cases e
      obtain ⟨_, its, rv, t⟩ := hok a _ g
      obtain ⟨o, e1, e2, n, e3⟩ := isTup_at t
      exact .tup e1 e2 e3 (by simpa using nesteds_of hok rs q rv)
  | .ftup xs, _, _, _, .ftup (a := a) (vs := vs) g _ rs, e, r => by
    cases r
    rw [keyN] at e
    cases q : keyNs xs with
    | none => rw [q] at e; cases e
    | some ks =>
      rw [q] at e; cases e
      obtain ⟨_, _, its, rv, t⟩ := hok a _ g
      obtain ⟨o, e1, e2, n, e3⟩ := isTup_at t
      exact .tup e1 e2 e3 (by simpa using nesteds_of hok rs q rv)
theorem nesteds_of {P : Program} {w : World} {K : PySem.W.Frag} {H : Hp} {h : Heap} (hok : HOk P w H h) : ∀ {ds : List D} {vs : List V} {us : List Value} {ks : List NestedKey}, Reps K H ds vs → keyNs ds = some ks → Vals vs us → NestedAll h ks us
  | _, _, _, _, .nil, e, r => by cases e; cases r; exact .nil
  | d :: ds, _, _, _, .cons g rs, e, r => by
    rw [keyNs] at e
    cases q1 : keyN d with
    | none => rw [q1] at e; cases e
    | some k =>
      cases q2 : keyNs ds with
      | none => rw [q1, q2] at e; cases e
      | some ks =>
        rw [q1, q2] at e; cases e
        cases r with
        | cons r1 r2 => exact .cons (nested_of hok g q1 r1) (nesteds_of hok rs q2 r2)
end
mutual
theorem hash_any : ∀ {d : D} {k : NestedKey}, keyN d = some k → ∀ w w' : World, k.hash w = k.hash w'
  | .non, _, e, w, w' => by cases e; rfl
  | .int i, _, e, w, w' => by cases e; rfl
  | .bl _, _, e, _, _ => by cases e
  | .str _, _, e, _, _ => by cases e
  | .ty _, _, e, _, _ => by cases e
  | .ref _, _, e, _, _ => by cases e
  | .rol _, _, e, _, _ => by cases e
  | .tup xs, _, e, w, w' => by
    rw [keyN] at e
    cases q : keyNs xs with
    | none => rw [q] at e; cases e
    | some ks => rw [q] at e; cases e; rw [NestedKey.hash, NestedKey.hash, hashes_any q w w']
  | .ftup xs, _, e, w, w' => by
    rw [keyN] at e
    cases q : keyNs xs with
    | none => rw [q] at e; cases e
    | some ks => rw [q] at e; cases e; rw [NestedKey.hash, NestedKey.hash, hashes_any q w w']
theorem hashes_any : ∀ {ds : List D} {ks : List NestedKey}, keyNs ds = some ks → ∀ w w' : World, NestedKey.hashes w ks = NestedKey.hashes w' ks
  | [], _, e, w, w' => by cases e; rfl
  | d :: ds, _, e, w, w' => by
    rw [keyNs] at e
    cases q1 : keyN d with
    | none => rw [q1] at e; cases e
    | some k =>
      cases q2 : keyNs ds with
      | none => rw [q1, q2] at e; cases e
      | some ks => rw [q1, q2] at e; cases e; rw [NestedKey.hashes, NestedKey.hashes, hash_any q1 w w', hashes_any q2 w w']
end
theorem KeyRep.is {P : Program} {w : World} {K : PySem.W.Frag} {H : Hp} {h : Heap} (hok : HOk P w H h) {k : NestedKey} {a : Addr} (r : KeyRep K H k a) : (nestedKind P w).is h k a :=
  let ⟨_, rd, e, z⟩ := r; ⟨nested_of hok rd e rfl, z⟩
theorem KeyRep.hash {K : PySem.W.Frag} {H : Hp} {k : NestedKey} {a : Addr} (r : KeyRep K H k a) (w w' : World) : k.hash w = k.hash w' := let ⟨_, _, e, _⟩ := r; hash_any e w w'
/-- a dict of tuple keys as it stands -/
theorem RawN.dict {P : Program} {w : World} {K : PySem.W.Frag} {H : Hp} {h : Heap} (hok : HOk P w H h) {a : Addr} {kvs : List (NestedKey × D)} {es : Array DictEntry} {ep : Nat} {xs : List (NestedKey × Addr × Value)} (e : H a = some (.ext (rawIs a es ep))) (r : RawN K H a kvs es ep xs) :
    h.DictOfH (nestedKind P w) a xs := by
  obtain ⟨⟨o, h1, h2, h3⟩, _, _⟩ := hok a _ e
  refine ⟨o, es, ep, h1, h2, h3, r.ent P w, fun x hx => ?_, r.nd⟩
  have : ∀ {kvs : List (NestedKey × D)} {xs : List (NestedKey × Addr × Value)}, RepN K H kvs xs → ∀ x ∈ xs, KeyRep K H x.1 x.2.1 := by
    intro kvs xs r
    induction r with
    | nil => intro x hx; cases hx
    | cons q _ ih =>
      intro x hx
      rcases List.mem_cons.mp hx with e | hx
      · subst e; exact q.2.1
      · exact ih x hx
  exact (this r.rel x hx).is hok
theorem RepN.val {K : PySem.W.Frag} {H : Hp} {kvs : List (NestedKey × D)} {xs : List (NestedKey × Addr × Value)} (r : RepN K H kvs xs) (k : NestedKey) :
    (valG kvs k = none ∧ atKey xs k = none) ∨ ∃ d v p, valG kvs k = some d ∧ atKey xs k = some p ∧ Rep K H d v ∧ RelV v p.2 := by
  induction r with
  | nil => exact .inl ⟨rfl, rfl⟩
  | @cons p x ps xs q _ ih =>
    rw [valG_cons]
    unfold atKey at ih ⊢
    rw [List.find?_cons]
    by_cases h : p.1 = k
    · have h' : x.1 = k := q.1.symm.trans h
      obtain ⟨_, _, v, rd, rv⟩ := q
      rw [if_pos h, decide_eq_true h']
      exact .inr ⟨_, v, x.2, rfl, rfl, rd, rv⟩
    · have h' : ¬ x.1 = k := fun e => h (q.1.trans e)
      rw [if_neg h, decide_eq_false h']
      exact ih
theorem RepN.len {K : PySem.W.Frag} {H : Hp} {kvs : List (NestedKey × D)} {xs : List (NestedKey × Addr × Value)} (r : RepN K H kvs xs) : kvs.length = xs.length := Paired.length r
theorem RepN.app {K : PySem.W.Frag} {H : Hp} {kvs ks : List (NestedKey × D)} {xs ys : List (NestedKey × Addr × Value)} (r : RepN K H kvs xs) (s : RepN K H ks ys) : RepN K H (kvs ++ ks) (xs ++ ys) := by
  induction r with
  | nil => exact s
  | cons q _ ih => exact .cons q ih
theorem RepN.put {K : PySem.W.Frag} {H : Hp} {kvs : List (NestedKey × D)} {xs : List (NestedKey × Addr × Value)} (r : RepN K H kvs xs) {k : NestedKey} {b : Addr} {d : D} {v : V} {u : Value} (hk : KeyRep K H k b) (rd : Rep K H d v) (rv : RelV v u) :
    RepN K H (putG kvs k d) (storedH xs k b u) := by
  unfold putG storedH
  have hs : (valG kvs k).isSome = (atKey xs k).isSome := by
    rcases r.val k with ⟨e1, e2⟩ | ⟨_, _, _, e1, e2, _⟩ <;> rw [e1, e2] <;> rfl
  rw [hs]
  cases (atKey xs k).isSome with
  | false => exact r.app (.cons ⟨rfl, hk, v, rd, rv⟩ .nil)
  | true =>
    clear hs
    simp only [if_true]
    induction r with
    | nil => exact .nil
    | @cons p x ps xs q _ ih =>
      rw [List.map_cons, List.map_cons]
      refine .cons ?_ ih
      unfold putAt
      by_cases h : p.1 = k
      · have h' : x.1 = k := q.1.symm.trans h
        rw [if_pos h, if_pos h']
        exact ⟨q.1, q.2.1, v, rd, rv⟩
      · have h' : ¬ x.1 = k := fun e => h (q.1.trans e)
        rw [if_neg h, if_neg h']
        exact q
theorem storedH_len (xs : List (NestedKey × Addr × Value)) (k : NestedKey) (b : Addr) (u : Value) : (storedH xs k b u).length ≤ xs.length + 1 := by
  unfold storedH; split
  · rw [List.length_map]; omega
  · rw [List.length_append]; simp
theorem RepN.keys {K : PySem.W.Frag} {H : Hp} {kvs : List (NestedKey × D)} {xs : List (NestedKey × Addr × Value)} (r : RepN K H kvs xs) : ∀ x ∈ xs, KeyRep K H x.1 x.2.1 := by
  induction r with
  | nil => intro x hx; cases hx
  | cons q _ ih =>
    intro x hx
    rcases List.mem_cons.mp hx with e | hx
    · subst e; exact q.2.1
    · exact ih x hx
/-- a store -/
theorem RawN.stored {P : Program} {w : World} {K : PySem.W.Frag} {H : Hp} {a : Addr} {kvs : List (NestedKey × D)} {es : Array DictEntry} {ep : Nat} {xs : List (NestedKey × Addr × Value)} (r : RawN K H a kvs es ep xs) (hz : kvs.length < sizeLine) {k : NestedKey} {b : Addr} {d : D} {v : V} {u : Value} (hk : KeyRep K H k b) (rd : Rep K H d v) (rv : RelV v u)
    {h' : Heap} (hm : h'.DictOfH (nestedKind P w) a (storedH xs k b u)) : ∃ es' ep', rawIs a es' ep' h' ∧ RawN K H a (putG kvs k d) es' ep' (storedH xs k b u) := by
  obtain ⟨o, es', ep', h1, h2, h3, h4, _, h6⟩ := hm
  have rp := r.rel.put hk rd rv
  refine ⟨es', ep', ⟨o, h1, h2, h3⟩, fun P' w' => ?_, h6, ?_, r.sys, rp⟩
  · rw [h4]
    refine List.map_congr_left fun x hx => ?_
    unfold entryOfKey
    have : (nestedKind P w).hash x.1 = (nestedKind P' w').hash x.1 := (rp.keys x hx).hash w w'
    rw [this]
  · have := storedH_len xs k b u
    have := r.rel.len
    omega
section
variable {X : Cx} {pins : List (Addr × Obj)} {σ : St} {H : Hp} {s : Shared} {a b : Addr}
theorem ext_new {P : Program} {w : World} {H : Hp} {h : Heap} {a : Addr} {es : Array DictEntry} {ep : Nat} (r : rawIs a es ep h) : ObjOk P w H h a (.ext (rawIs a es ep)) :=
  ⟨r, (let ⟨o, e, _⟩ := r; ⟨o, e⟩), fun h1 h2 ⟨o, e, q⟩ k => ⟨o, k o e, q⟩⟩
theorem roomN {A : Around} (hu : A.units + 64 < cLine) {P : Program} {w : World} : (nestedKind P w).room A.in1 := by
  show A.units + 1 + 8 < cLine
  omega
end

/-! ### what is read and stored -/
def keyK : D → Option Key
  | .int i => some (.inl i)
  | .str x => some (.inr x)
  | _ => none
theorem keyK_rep {K : PySem.W.Frag} {H : Hp} {d : D} {v : V} {k : Key} (r : Rep K H d v) (e : keyK d = some k) : v = kV k := by
  cases r <;> cases e <;> rfl
theorem RepK.val {K : PySem.W.Frag} {H : Hp} {kvs : List (Key × D)} {kv : List (Key × V)} (r : RepK K H kvs kv) (k : Key) : (valG kvs k = none ∧ valV kv k = none) ∨ ∃ d v, valG kvs k = some d ∧ valV kv k = some v ∧ Rep K H d v := by
  induction r with
  | nil => exact .inl ⟨rfl, rfl⟩
  | @cons p x ps xs q _ ih =>
    rw [valG_cons]
    by_cases h : p.1 = k
    · have h' : x.1 = k := q.1.symm.trans h
      rw [if_pos h, valV_pos h']
      exact .inr ⟨_, _, rfl, rfl, q.2⟩
    · have h' : ¬ x.1 = k := fun e => h (q.1.trans e)
      rw [if_neg h, valV_neg h']
      exact ih
theorem RepK.len {K : PySem.W.Frag} {H : Hp} {kvs : List (Key × D)} {kv : List (Key × V)} (r : RepK K H kvs kv) : kvs.length = kv.length := Paired.length r
theorem RepK.put {K : PySem.W.Frag} {H : Hp} {kvs : List (Key × D)} {kv : List (Key × V)} (r : RepK K H kvs kv) (k : Key) {d : D} {v : V} (rd : Rep K H d v) : RepK K H (putG kvs k d) (putK kv k v) := by
  unfold putG putK
  have hs : (valG kvs k).isSome = (kv.any fun kv => decide (kv.1 = k)) := by
    rw [valV_any]
    rcases r.val k with ⟨e1, e2⟩ | ⟨_, _, e1, e2, _⟩ <;> rw [e1, e2] <;> rfl
  rw [hs]
  cases (kv.any fun kv => decide (kv.1 = k)) with
  | false =>
    simp only [Bool.false_eq_true, if_false]
    clear hs
    induction r with
    | nil => exact .cons ⟨rfl, rd⟩ .nil
    | cons q _ ih => exact .cons q ih
  | true =>
    clear hs
    simp only [if_true]
    induction r with
    | nil => exact .nil
    | @cons p x ps xs q _ ih =>
      rw [List.map_cons, List.map_cons]
      refine .cons ?_ ih
      by_cases h : p.1 = k
      · have h' : x.1 = k := q.1.symm.trans h
        rw [if_pos h, if_pos h']
        exact ⟨q.1, rd⟩
      · have h' : ¬ x.1 = k := fun e => h (q.1.trans e)
        rw [if_neg h, if_neg h']
        exact q
def keyD (y : D) : Option NestedKey := match keyN y with
  | some k => if k.depth ≤ 8 then some k else none
  | none => none
def keyT : D → Option NestedKey
  | .tup xs => keyD (.tup xs)
  | .ftup xs => keyD (.ftup xs)
  | _ => none
theorem keyD_of {y : D} {k : NestedKey} (h : keyD y = some k) : keyN y = some k ∧ k.depth ≤ 8 := by
  unfold keyD at h
  split at h
  · rename_i k' e
    split at h
    · cases h; exact ⟨e, by assumption⟩
    · cases h
  · cases h
theorem keyT_rep {K : PySem.W.Frag} {H : Hp} {d : D} {v : V} {k : NestedKey} (r : Rep K H d v) (e : keyT d = some k) : ∃ b, v = .ref b ∧ KeyRep K H k b := by
  cases r with
  | tup g rs => obtain ⟨e1, e2⟩ := keyD_of (y := .tup _) e; exact ⟨_, rfl, _, .tup g rs, e1, e2⟩
  | ftup g n rs => obtain ⟨e1, e2⟩ := keyD_of (y := .ftup _) e; exact ⟨_, rfl, _, .ftup g n rs, e1, e2⟩
  | _ => cases e
/-- the value of a dict at a key: none is «no dict or no such key kind» -/
def getO (m : Mem) (x y : D) : Option (Option D) := match x with
  | .ref a => match m a with
    | some (.dK kvs) => (keyK y).map fun k => valG kvs k
    | some (.dN kvs) => (keyT y).map fun k => valG kvs k
    | some (.dR kvs _ _ _) => (keyT y).map fun k => valG kvs k
    | some (.dF kvs) => (keyK y).map fun k => valG kvs k
    | some (.dT kds) => (keyT y).map fun k => valG (kvT kds) k
    | _ => none
  | _ => none
theorem getO_K {m : Mem} {a : Addr} {kvs : List (Key × D)} {y : D} {k : Key} (h : m a = some (.dK kvs)) (e : keyK y = some k) : getO m (.ref a) y = some (valG kvs k) := by
  unfold getO; dsimp only; rw [h]; dsimp only; rw [e]; rfl
theorem getO_T {m : Mem} {a : Addr} {kds : List (D × D)} {y : D} {k : NestedKey} (h : m a = some (.dT kds)) (e : keyT y = some k) : getO m (.ref a) y = some (valG (kvT kds) k) := by
  unfold getO; dsimp only; rw [h]; dsimp only; rw [e]; rfl
theorem getO_L {m : Mem} {a : Addr} {xs : List D} {y : D} (h : m a = some (.lst xs)) : getO m (.ref a) y = none := by
  unfold getO; dsimp only; rw [h]
/-- what stands at a dict and a key -/
inductive DictSim (X : Cx) (H : Hp) (a : Addr) (y : D) (vy : V) (o : Option D) : Prop
  | k (kvs : List (Key × D)) (kv : List (Key × V)) (k : Key) : Rd H a (.dK kv) → RepK X.K H kvs kv → vy = kV k → o = valG kvs k → DictSim X H a y vy o
  | n (kvs : List (NestedKey × D)) (es : Array DictEntry) (ep : Nat) (xs : List (NestedKey × Addr × Value)) (k : NestedKey) (b : Addr) : H a = some (.ext (rawIs a es ep)) → RawN X.K H a kvs es ep xs → vy = .ref b → KeyRep X.K H k b → o = valG kvs k → DictSim X H a y vy o
theorem getO_sim {X : Cx} {H : Hp} {m : Mem} {x y : D} {vx vy : V} {o : Option D} (sim : Sim X.K H m) (rx : Rep X.K H x vx) (ry : Rep X.K H y vy) (e : getO m x y = some o) : ∃ a, vx = .ref a ∧ DictSim X H a y vy o := by
  unfold getO at e
  split at e
  · rename_i a
    cases rx
    refine ⟨a, rfl, ?_⟩
    split at e
    · rename_i kvs q
      obtain ⟨kv, h1, h2⟩ := sim a _ q
      cases q2 : keyK y with
      | none => rw [q2] at e; cases e
      | some k => rw [q2] at e; cases e; exact .k kvs kv k (.inl h1) h2 (keyK_rep ry q2) rfl
    · rename_i kvs q
      obtain ⟨es, ep, xs, h1, h2⟩ := sim a _ q
      cases q2 : keyT y with
      | none => rw [q2] at e; cases e
      | some k =>
        rw [q2] at e; cases e
        obtain ⟨b, eb, hk⟩ := keyT_rep ry q2
        exact .n kvs es ep xs k b h1 h2 eb hk rfl
    · rename_i kvs es ep ds q
      obtain ⟨h1, xs, h2, _⟩ := sim a _ q
      cases q2 : keyT y with
      | none => rw [q2] at e; cases e
      | some k =>
        rw [q2] at e; cases e
        obtain ⟨b, eb, hk⟩ := keyT_rep ry q2
        exact .n kvs es ep xs k b h1 h2 eb hk rfl
    · rename_i kvs q
      obtain ⟨od, kv, h1, h2⟩ := sim a _ q
      cases q2 : keyK y with
      | none => rw [q2] at e; cases e
      | some k => rw [q2] at e; cases e; exact .k kvs kv k (.inr ⟨od, h1⟩) h2 (keyK_rep ry q2) rfl
    · rename_i kds q
      obtain ⟨es, ep, xs, h1, h2, _⟩ := sim a _ q
      cases q2 : keyT y with
      | none => rw [q2] at e; cases e
      | some k =>
        rw [q2] at e; cases e
        obtain ⟨b, eb, hk⟩ := keyT_rep ry q2
        exact .n (kvT kds) es ep xs k b h1 h2 eb hk rfl
    · cases e
  · cases e
section
variable {X : Cx} {pins : List (Addr × Obj)} {σ : St} {H : Hp} {s : Shared} {a : Addr} {y : D} {vy : V} {u : Value} {o : Option D} {E : Value → Shared → Prop}
theorem DictSim.typeIs (I : Inv X pins σ H s) (g : DictSim X H a y vy o) : s.TypeIs (.ref a) "dict" ∧ (∀ b, Value.ref a = .ref b → ∃ ob, s.heap.get? b = some ob ∧ ob.dict = none) ∧ (a == sysModules) = false := by
  cases g with
  | k kvs kv k h1 h2 _ _ => exact isD_at I (.inl ⟨kv, h1⟩)
  | n kvs es ep xs k b h1 h2 _ _ _ =>
    refine ⟨(h2.dict I.hok h1).typeIs, fun c q => ?_, h2.sys⟩
    cases q
    obtain ⟨⟨ob, e1, e2, _⟩, _, _⟩ := I.hok a _ h1
    exact ⟨ob, e1, e2.2.1⟩
/-- d[y] -/
theorem DictSim.get (hu : X.A.units + 64 < cLine) (I : Inv X pins σ H s) {d : D} (g : DictSim X H a y vy (some d)) (ry : RelV vy u) {Q : Value → Shared → Prop} (h : ∀ w' v s', Inv X pins σ H s' → Rep X.K H d v → RelV v w' → Q w' s') :
    wpAny (model X.prog X.w) X.A (getItem (.ref a) u) Q E s := by
  cases g with
  | k kvs kv k h1 h2 ey ev =>
    rcases h2.val k with ⟨e1, _⟩ | ⟨d', v, e1, e2, rd⟩
    · rw [e1] at ev; cases ev
    · rw [e1] at ev; cases ev
      subst ey
      exact d_getItem (by omega) I (.inl ⟨kv, k, h1, rfl, e2.symm⟩) ry fun w' s' I' rv => h w' v s' I' rd rv
  | n kvs es ep xs k b h1 h2 ey hk ev =>
    subst ey
    cases ry
    rcases h2.rel.val k with ⟨e1, _⟩ | ⟨d', v, p, e1, e2, rd, rv⟩
    · rw [e1] at ev; cases ev
    · rw [e1] at ev; cases ev
      exact wpAny_getItem_heap (roomN hu) (hk.is I.hok) (h2.dict I.hok h1) e2 (h _ v _ (I.tok _) rd rv)
theorem DictSim.isIn (hu : X.A.units + 64 < cLine) (I : Inv X pins σ H s) (g : DictSim X H a y vy o) (ry : RelV vy u) {Q : Value → Shared → Prop} (h : ∀ s', Inv X pins σ H s' → Q (.bool o.isSome) s') :
    wpAny (model X.prog X.w) X.A (compareOp .In u (.ref a)) Q E s := by
  cases g with
  | k kvs kv k h1 h2 ey ev =>
    subst ey
    have e : o.isSome = (valV kv k).isSome := by
      subst ev
      rcases h2.val k with ⟨e1, e2⟩ | ⟨_, _, e1, e2, _⟩ <;> rw [e1, e2] <;> rfl
    rw [e] at h
    exact L2.d_in (by omega) I (.inl ⟨kv, k, h1, rfl, rfl⟩) ry h
  | n kvs es ep xs k b h1 h2 ey hk ev =>
    subst ey
    cases ry
    have e : o.isSome = (atKey xs k).isSome := by
      subst ev
      rcases h2.rel.val k with ⟨e1, e2⟩ | ⟨_, _, _, e1, e2, _⟩ <;> rw [e1, e2] <;> rfl
    rw [e] at h
    exact wpAny_in_heap (roomN hu) (hk.is I.hok) h2.sys (h2.dict I.hok h1) (h _ (I.tok _))
theorem DictSim.notIn (hu : X.A.units + 64 < cLine) (I : Inv X pins σ H s) (g : DictSim X H a y vy o) (ry : RelV vy u) {Q : Value → Shared → Prop} (h : ∀ s', Inv X pins σ H s' → Q (.bool (!o.isSome)) s') :
    wpAny (model X.prog X.w) X.A (compareOp .NotIn u (.ref a)) Q E s := by
  cases g with
  | k kvs kv k h1 h2 ey ev =>
    subst ey
    have e : o.isSome = (valV kv k).isSome := by
      subst ev
      rcases h2.val k with ⟨e1, e2⟩ | ⟨_, _, e1, e2, _⟩ <;> rw [e1, e2] <;> rfl
    rw [e] at h
    exact L2.d_notIn (by omega) I (.inl ⟨kv, k, h1, rfl, rfl⟩) ry h
  | n kvs es ep xs k b h1 h2 ey hk ev =>
    subst ey
    cases ry
    have e : o.isSome = (atKey xs k).isSome := by
      subst ev
      rcases h2.rel.val k with ⟨e1, e2⟩ | ⟨_, _, _, e1, e2, _⟩ <;> rw [e1, e2] <;> rfl
    rw [e] at h
    exact wpAny_notIn_heap (roomN hu) (hk.is I.hok) h2.sys (h2.dict I.hok h1) (h _ (I.tok _))
end
/-! ### stores -/
def setG (o i d : D) (m : Mem) (q : Mem → Prop) : Prop := match o with
  | .ref a => match m a with
    | some (.dK kvs) => match keyK i with
      | some k => kvs.length < sizeLine ∧ q (m.set a (.dK (putG kvs k d)))
      | none => False
    | some (.dN kvs) => match keyT i with
      | some k => kvs.length < sizeLine ∧ q (m.set a (.dN (putG kvs k d)))
      | none => False
    | some (.dT kds) => match keyT i with
      | some k => kds.length < sizeLine ∧ valG (kvT kds) k = none ∧ q (m.set a (.dT (kds ++ [(i, d)])))
      | none => False
    | _ => setD o i d m q
  | _ => False
theorem setG_T {a : Addr} {i d : D} {m : Mem} {q : Mem → Prop} {kds : List (D × D)} {k : NestedKey} (h : m a = some (.dT kds)) (e : keyT i = some k) : setG (.ref a) i d m q = (kds.length < sizeLine ∧ valG (kvT kds) k = none ∧ q (m.set a (.dT (kds ++ [(i, d)])))) := by
  unfold setG; dsimp only; rw [h]; dsimp only; rw [e]
theorem setG_K {a : Addr} {i d : D} {m : Mem} {q : Mem → Prop} {kvs : List (Key × D)} {k : Key} (h : m a = some (.dK kvs)) (e : keyK i = some k) : setG (.ref a) i d m q = (kvs.length < sizeLine ∧ q (m.set a (.dK (putG kvs k d)))) := by
  unfold setG; dsimp only; rw [h]; dsimp only; rw [e]
def rSetG (K : PySem.W.Frag) : TSet := fun vo vi vd H Q => ∃ o i d m q, Rep K H o vo ∧ Rep K H i vi ∧ Rep K H d vd ∧ Sim K H m ∧ setG o i d m q ∧ ∀ m' H', q m' → Sim K H' m' → Step H m H' m' → Q H'
theorem set_G {X : Cx} (hu : X.A.units + 64 < cLine) : PSet X (rSetG X.K) := by
  intro pins s σ H vo vi vd ov iv u Q I ro ri rd ⟨o, i, d, m, q, hro, hri, hrd, sim, h, post⟩
  unfold setG at h
  split at h
  · rename_i a
    cases hro
    cases ro
    split at h
    · rename_i kvs ea
      obtain ⟨kv, h1, h2⟩ := sim a _ ea
      split at h
      · rename_i k ek
        obtain ⟨hz, h⟩ := h
        have e1 := keyK_rep hri ek
        subst e1
        refine d_setItem (by omega) I (.inl ⟨kv, k, h1, rfl, by rw [← h2.len]; exact hz, rfl⟩) ri rd fun s' I' => ⟨_, I', post _ _ h (sim.write ea ⟨_, upd_same, (h2.put k hrd).mono (upd_old sim ea)⟩) (Step.write sim ea)⟩
      · exact h.elim
    · rename_i kvs ea
      obtain ⟨es, ep, xs, h1, h2⟩ := sim a _ ea
      split at h
      · rename_i k ek
        obtain ⟨hz, h⟩ := h
        obtain ⟨b, eb, hk⟩ := keyT_rep hri ek
        subst eb
        cases ri
        refine wpAny_setItem_heap (hsz := by have := h2.sz; exact this) (roomN hu) (hk.is I.hok) (h2.dict I.hok h1) fun h' hm hs => ?_
        obtain ⟨es', ep', r1, r2⟩ := h2.stored hz hk hrd rd hm
        have I2 : Inv X pins σ (upd H a (.ext (rawIs a es' ep'))) { s with heap := h', toks := s.toks + (nestedKind X.prog X.w).draws k } :=
          d_write I (by rw [h1]; exact True.intro) hs (let ⟨o, e, _⟩ := r1; ⟨o, e⟩) (ext_new r1)
        exact ⟨_, I2, post _ _ h (sim.write ea ⟨es', ep', _, upd_same, r2.mono (upd_old sim ea)⟩) (Step.write sim ea)⟩
      · exact h.elim
    · rename_i kds ea
      obtain ⟨es, ep, xs, h1, h2, h3⟩ := sim a _ ea
      split at h
      · rename_i k ek
        obtain ⟨hz, hn, h⟩ := h
        have kvl : (kvT kds).length = kds.length := List.length_map ..
        have ekn : keyN i = some k := by
          cases i with
          | tup _ => exact (keyD_of ek).1
          | ftup _ => exact (keyD_of ek).1
          | _ => cases ek
        have atn : atKey xs k = none := by
          rcases h2.rel.val k with ⟨_, e2⟩ | ⟨_, _, _, e1, _⟩
          · exact e2
          · rw [hn] at e1; cases e1
        obtain ⟨b, eb, hk⟩ := keyT_rep hri ek
        subst eb
        cases ri
        refine wpAny_setItem_heap (hsz := by have := h2.sz; exact this) (roomN hu) (hk.is I.hok) (h2.dict I.hok h1) fun h' hm hs => ?_
        obtain ⟨es', ep', r1, r2⟩ := h2.stored (by rw [kvl]; exact hz) hk hrd rd hm
        have I2 : Inv X pins σ (upd H a (.ext (rawIs a es' ep'))) { s with heap := h', toks := s.toks + (nestedKind X.prog X.w).draws k } :=
          d_write I (by rw [h1]; exact True.intro) hs (let ⟨o, e, _⟩ := r1; ⟨o, e⟩) (ext_new r1)
        have ekv : kvT (kds ++ [(i, d)]) = putG (kvT kds) k d := by
          rw [putG_new _ hn]
          unfold kvT
          rw [List.map_append, List.map_cons, List.map_nil, ekn]; rfl
        have es : storedH xs k b u = xs ++ [(k, b, u)] := by unfold storedH; rw [atn]; rfl
        refine ⟨_, I2, post _ _ h (sim.write ea ⟨es', ep', _, upd_same, by rw [ekv]; exact r2.mono (upd_old sim ea), ?_⟩) (Step.write sim ea)⟩
        rw [es, List.map_append, List.map_append]
        exact (h3.append (.cons hri .nil)).mono (upd_old sim ea)
      · exact h.elim
    · exact set_list pins s σ H (.ref a) vi vd _ iv u Q I (show RelV (.ref a) (.ref a) from rfl) ri rd (setD_ok sim (.ref a) hri hrd h post)
  · exact h.elim
def dSetG (te to ti : DTE) : DTS := fun E ρ m => te ρ m fun d m1 => to ρ m1 fun o m2 => ti ρ m2 fun i m3 => setG o i d m3 fun m4 => E.nx ρ m4
section
variable {X : Cx} {B : Bs} {e : Expr} {te : DTE} {pos : Pos}
theorem ds_setG (hu : X.A.units + 64 < cLine) {oe ie : Expr} {to ti : DTE} {tpos : Pos} (he : DE B X e te) (ho : DE B X oe to) (hi : DE B X ie ti) (hs : swapsWithSole [.Subscript oe ie tpos] e pos.line X.env = pure false := by rfl) (hw : swappedStores [.Subscript oe ie tpos] e X.env = pure none := by rfl)
    (h1 : (assignEach [.Subscript oe ie tpos] X.env).map (·.2) = [assign (.Subscript oe ie tpos) X.env] := by rfl)
    (ha : ∀ v, assign (.Subscript oe ie tpos) X.env v = (do
      let ov ← holding [v] (eval oe X.env)
      let iv ← holding [v, ov] (eval ie X.env)
      standAt tpos
      holding [v, ov, iv] (setItem ov iv v)
      release [v, ov, iv] []) := by intro _; rfl) : DS B X (.Assign [.Subscript oe ie tpos] e pos) (dSetG te to ti) :=
  ps_imp (ps_asg he (pg_sub ho hi (set_G hu) ha) hs hw h1) fun F σ H ⟨ρ, m, E, p, h, o⟩ => ⟨ρ, m, _, p, h, fun d m1 v H1 h1 r1 s1 t1 => ⟨ρ, m1, _, p.next s1 t1, h1, fun d2 m2 v2 H2 h2 r2 s2 t2 =>
    ⟨ρ, m2, _, (p.next s1 t1).next s2 t2, h2, fun d3 m3 v3 H3 h3 r3 s3 t3 => ⟨d2, d3, d, m3, _, r2.mono t3.ext, r3, r1.mono (t2.trans t3).ext, s3, h3, fun m4 H4 h4 s4 t4 =>
      o.nx ρ m4 σ H4 h4 (p.env.mono (t1.trans (t2.trans (t3.trans t4))).ext) s4 (t1.trans (t2.trans (t3.trans t4)))⟩⟩⟩⟩
end
/-! ### in, not in, d[k] -/
def inG (neg : Bool) : DR2 := fun x y m q => match getO m y x with
  | some o => q (.bl (if neg then !o.isSome else o.isSome)) m
  | none => match x, itemsOf m y with
    | .int k, some xs => match intsOf xs with
      | some ns => q (.bl (if neg then !ns.contains k else ns.contains k)) m
      | none => False
    | _, _ => False
theorem inV_ints (k : Int) (ns : List Int) : inV (.int k) (ns.map V.int) = ns.contains k := by
  unfold inV
  rw [List.any_map, List.contains_eq_any_beq]
  congr 1
  funext x
  show (x == k) = (k == x)
  exact Bool.beq_comm
theorem flat_ints (ns : List Int) : (ns.map V.int).all flatV = true := by
  rw [List.all_map, List.all_eq_true]; intro x _; rfl
theorem d_inG {X : Cx} (hu : X.A.units + 64 < cLine) (neg : Bool) : OpD X (compareOp (if neg then .NotIn else .In)) (inG neg) := by
  intro pins s σ H x y v u Q I rx ry ⟨dx, dy, m, q, r1, r2, sim, h, post⟩
  unfold inG at h
  split at h
  · rename_i o e
    obtain ⟨a, rfl, g⟩ := getO_sim sim r2 r1 e
    cases ry
    cases neg with
    | false => exact g.isIn hu I rx fun s' I' => ⟨.bl o.isSome, H, I', rfl, post.here h (.bl _) sim⟩
    | true => exact g.notIn hu I rx fun s' I' => ⟨.bl (!o.isSome), H, I', rfl, post.here h (.bl _) sim⟩
  · cases dx with
    | int k =>
      cases e : itemsOf m dy with
      | none => rw [e] at h; exact h.elim
      | some xs =>
        rw [e] at h
        dsimp only at h
        split at h
        · rename_i ns en
          have e1 := intsOf_ok en
          subst e1
          obtain ⟨p, vs, rfl, hq, rs⟩ := sim.seq r2 e
          have e2 := reps_ints rs
          subst e2
          cases r1
          have hh : Q (.bl (if neg then !inV (.int k) (ns.map V.int) else inV (.int k) (ns.map V.int))) H := by rw [inV_ints]; exact post.here h (.bl _) sim
          cases neg with
          | false => exact op_in_seq pins s σ H _ _ v u Q I rx ry ⟨p, _, rfl, hq, rfl, flat_ints ns, hh⟩
          | true => exact op_notIn_seq pins s σ H _ _ v u Q I rx ry ⟨p, _, rfl, hq, rfl, flat_ints ns, hh⟩
        · exact h.elim
    | _ => exact (show False from h).elim
theorem d_in {X : Cx} (hu : X.A.units + 64 < cLine) : OpD X (compareOp .In) (inG false) := d_inG hu false
theorem d_notIn {X : Cx} (hu : X.A.units + 64 < cLine) : OpD X (compareOp .NotIn) (inG true) := d_inG hu true
def ixG : DR2 := fun x y m q => match getO m x y with
  | some (some d) => q d m
  | some none => False
  | none => ixD x y m q
theorem d_ixG {X : Cx} (hu : X.A.units + 64 < cLine) : IxR X (up2 X.K ixG) := by
  intro value slice pins s σ H x y v u Q I rx ry ⟨dx, dy, m, q, r1, r2, sim, h, post⟩ hs
  unfold ixG at h
  split at h
  · rename_i d e
    obtain ⟨a, rfl, g⟩ := getO_sim sim r1 r2 e
    cases rx
    obtain ⟨hT, _, _⟩ := g.typeIs I
    unfold subscriptTail
    refine wpAny_bind ?_
    rw [getitemInPython_of_ne hT.not_modules]
    refine wpAny_bind (wpAny_specialOf hT PySem.F.slot_dict_getitem.lookup ?_)
    have fin : wpAny (model X.prog X.w) X.A (subscripted slice false (.ref a) u) (fun r s₃ => wpAny (model X.prog X.w) X.A (letTemporaryGo value (.ref a) r >>= fun _ => pure r) (EP X pins σ Q) X.xe s₃) X.xe s := by
      rw [hs]
      exact wpAny_operating (g.get hu I ry fun w' v' s' I' rd rv => wpAny_bind (wpAny_letTemporaryGo (wpAny_pure ⟨v', H, I', rv, post.here h rd sim⟩)))
    first
      | exact wpAny_pure (wpAny_bind fin)
      | exact wpAny_bind (wpAny_pure (wpAny_bind fin))
      | exact wpAny_bind fin
  · exact h.elim
  · exact d_ix value slice pins s σ H x y v u Q I rx ry ⟨dx, dy, m, q, r1, r2, sim, h, post⟩ hs
section
variable {X : Cx} {B : Bs} {a b o e f : Expr} {ta tb to te tx : DTE} {pos apos cpos : Pos}
theorem de_ixG (hu : X.A.units + 64 < cLine) (ha : DE B X a ta) (hb : DE B X b tb) (hs : PlainIx b := by exact fun _ _ => rfl) : DE B X (.Subscript a b pos) (dOp ixG ta tb) := pe_imp (pe_ix (d_ixG hu) ha hb hs) op_lift
/-! ### methods -/
def isDict (m : Mem) (x : D) : Prop := ∃ a, x = .ref a ∧ ((∃ kvs, m a = some (.dK kvs)) ∨ ∃ kvs, m a = some (.dN kvs))
theorem isDict_at {pins : List (Addr × Obj)} {σ : St} {H : Hp} {s : Shared} {m : Mem} {x : D} {v : V} (I : Inv X pins σ H s) (sim : Sim X.K H m) (r : Rep X.K H x v) (h : isDict m x) : ∃ a, x = .ref a ∧ v = .ref a ∧ s.TypeIs (.ref a) "dict" ∧ (∀ b, Value.ref a = .ref b → ∃ ob, s.heap.get? b = some ob ∧ ob.dict = none) ∧ (a == sysModules) = false := by
  obtain ⟨a, rfl, h⟩ := h
  cases r
  refine ⟨a, rfl, rfl, ?_⟩
  rcases h with ⟨kvs, h⟩ | ⟨kvs, h⟩
  · obtain ⟨kv, h1, h2⟩ := sim a _ h
    exact isD_at I (.inl ⟨kv, .inl h1⟩)
  · obtain ⟨es, ep, xs, h1, h2⟩ := sim a _ h
    refine ⟨(h2.dict I.hok h1).typeIs, fun c q => ?_, h2.sys⟩
    cases q
    obtain ⟨⟨ob, e1, e2, _⟩, _, _⟩ := I.hok a _ h1
    exact ⟨ob, e1, e2.2.1⟩
def dGet1 (to te : DTE) : DTE := fun ρ m q => to ρ m fun x m1 => isDict m1 x ∧ te ρ m1 fun y m2 => match getO m2 x y with | some o => q (o.getD .non) m2 | none => False
def dGet2 (to te tx : DTE) : DTE := fun ρ m q => to ρ m fun x m1 => isDict m1 x ∧ te ρ m1 fun y m2 => tx ρ m2 fun z m3 => match getO m3 x y with | some o => q (o.getD z) m3 | none => False
/-- d.setdefault(k, x), keys tuples -/
def setdefD (x y z : D) (m : Mem) (q : DQ) : Prop := match x with
  | .ref a => match m a with
    | some (.dN kvs) => match keyT y with
      | some k => match valG kvs k with
        | some v => q v m
        | none => kvs.length < sizeLine ∧ q z (m.set a (.dN (putG kvs k z)))
      | none => False
    | _ => False
  | _ => False
def dSetdef (to te tx : DTE) : DTE := fun ρ m q => to ρ m fun x m1 => isDict m1 x ∧ te ρ m1 fun y m2 => tx ρ m2 fun z m3 => setdefD x y z m3 q
theorem de_setdef (hu : X.A.units + 64 < cLine) (ho : DE B X o to) (he : DE B X e te) (hf : DE B X f tx) (mm : M2 X o "setdefault" apos e f cpos := by exact ⟨rfl, rfl, rfl, rfl⟩) : DE B X (.Call (.Attribute o "setdefault" apos) [e, f] [] cpos) (dSetdef to te tx) := by
  refine ⟨fun pins s σ H Q I ⟨ρ, m, q, p, h, post⟩ => ?_⟩
  refine wpAny_Call_method mm.base mm.few mm.line PySem.F.plainAttrs_dict PySem.F.slot_dict_setdefault PySem.F.type_dict_setdefault (thn (ho.run pins s σ H (fun v H1 => ∃ x m1, Rep X.K H1 x v ∧ Sim X.K H1 m1 ∧ Step H m H1 m1 ∧ isDict m1 x ∧ te ρ m1 fun y m2 => tx ρ m2 fun z m3 => setdefD x y z m3 q) I ⟨ρ, m, _, p, h, fun x m1 v H1 h1 r1 s1 t1 => ⟨x, m1, r1, s1, t1, h1⟩⟩) fun u s1 ⟨vx, H1, I1, rx, x, m1, r1, sm1, t1, hd, h1⟩ => ?_)
  obtain ⟨a, rfl, rfl, t1', t2', _⟩ := isDict_at I1 sm1 r1 hd
  obtain rfl : u = Value.ref a := rx
  refine ⟨t1', t2', ?_⟩
  rw [mm.trees]
  refine Calls.callWith_builtin rfl (Calls.evalArgs_plain (Calls.spliced_cons (thn (he.run pins s1 σ H1 (fun v H2 => ∃ y m2, Rep X.K H2 y v ∧ Sim X.K H2 m2 ∧ Step H1 m1 H2 m2 ∧ tx ρ m2 fun z m3 => setdefD (.ref a) y z m3 q) I1 ⟨ρ, m1, _, p.next sm1 t1, h1, fun y m2 v H2 h2 r2 s2 t2 => ⟨y, m2, r2, s2, t2, h2⟩⟩) fun iv s2 ⟨vy, H2, I2, ry, y, m2, r2, sm2, t2, h2⟩ => ?_)))
  refine Calls.spliced_cons (thn (hf.run pins s2 σ H2 (fun v H3 => ∃ z m3, Rep X.K H3 z v ∧ Sim X.K H3 m3 ∧ Step H2 m2 H3 m3 ∧ setdefD (.ref a) y z m3 q) I2 ⟨ρ, m2, _, (p.next sm1 t1).next sm2 t2, h2, fun z m3 v H3 h3 r3 s3 t3 => ⟨z, m3, r3, s3, t3, h3⟩⟩) fun fv s3 ⟨vz, H3, I3, rz, z, m3, r3, sm3, t3, h3⟩ => Calls.spliced_nil ?_)
  unfold setdefD at h3
  dsimp only at h3
  split at h3
  · rename_i kvs ea
    obtain ⟨es, ep, xs, g1, g2⟩ := sm3 a _ ea
    split at h3
    · rename_i k ek
      obtain ⟨b, eb, hk⟩ := keyT_rep (r2.mono t3.ext) ek
      subst eb
      cases ry
      refine call_setdefault_heap (hsz := g2.sz) (roomN hu) (hk.is I3.hok) g2.sys (g2.dict I3.hok g1) (fun pv hp => ?_) fun hn h' hm hs => ?_
      · rcases g2.rel.val k with ⟨_, e2⟩ | ⟨d, v, p', e1, e2, rd, rv⟩
        · rw [e2] at hp; cases hp
        · rw [e2] at hp; cases hp
          rw [e1] at h3
          exact ⟨v, H3, I3.tok _, rv, post _ m3 v H3 h3 rd sm3 (t1.trans (t2.trans t3))⟩
      · rcases g2.rel.val k with ⟨e1, _⟩ | ⟨d, v, p', _, e2, _⟩
        · rw [e1] at h3
          obtain ⟨hz, h3⟩ := h3
          obtain ⟨es', ep', q1, q2⟩ := g2.stored hz hk r3 rz hm
          have I4 : Inv X pins σ (upd H3 a (.ext (rawIs a es' ep'))) { s3 with heap := h', toks := s3.toks + (nestedKind X.prog X.w).draws k } :=
            d_write I3 (by rw [g1]; exact True.intro) hs (let ⟨o, e, _⟩ := q1; ⟨o, e⟩) (ext_new q1)
          exact ⟨vz, _, I4, rz, post _ _ vz _ h3 (r3.mono (upd_old sm3 ea)) (sm3.write ea ⟨es', ep', _, upd_same, q2.mono (upd_old sm3 ea)⟩) (t1.trans (t2.trans (t3.trans (Step.write sm3 ea))))⟩
        · rw [e2] at hn; cases hn
    · exact h3.elim
  · exact h3.elim
/-! ### {}, {k: v}, len -/
theorem raw_new (h : Heap) : rawIs h.objs.size #[] 0 (h.push { cls := .type "dict", data := .dict #[] }) := ⟨_, Heap.get?_push_size _ rfl, ⟨rfl, rfl, rfl⟩, rfl⟩
theorem rawN_new {K : PySem.W.Frag} {H : Hp} {a : Addr} (h : (a == sysModules) = false) : RawN K H a [] #[] 0 [] := ⟨fun _ _ => rfl, List.nodup_nil, Nat.zero_le _, h, .nil⟩
def dDict0 : DTE := fun _ m q => (∀ p, m p = none → q (.ref p) (m.set p (.dK []))) ∨ ∀ p, m p = none → q (.ref p) (m.set p (.dN []))
theorem sys_new {pins : List (Addr × Obj)} {σ : St} {H : Hp} {s : Shared} (I : Inv X pins σ H s) : (s.heap.objs.size == sysModules) = false := beq_eq_false_iff_ne.mpr (Ne.symm (Nat.ne_of_lt I.big))
theorem de_dict0 : DE B X (.Dict [] [] pos) dDict0 := ⟨fun pins s σ H Q I ⟨ρ, m, q, p, h, post⟩ => by
  have nw := I.hok.fresh (Nat.le_refl s.heap.objs.size)
  rcases h with h | h
  · exact wpAny_Dict_empty ⟨.ref s.heap.objs.size, _, I.laid (a := s.heap.objs.size) (o := .dK []) (t' := s.toks) (fun _ _ q => Heap.get?_push_of_some _ q) (Nat.le_refl _) (dk_empty s.heap I.big), rfl,
      post _ _ _ _ (h _ (p.sim.free nw)) (.ref _) (p.sim.allocM nw ⟨[], upd_same, .nil⟩) (Step.allocM nw)⟩
  · exact wpAny_Dict_empty ⟨.ref s.heap.objs.size, _, I.laid (a := s.heap.objs.size) (o := .ext (rawIs s.heap.objs.size #[] 0)) (t' := s.toks) (fun _ _ q => Heap.get?_push_of_some _ q) (Nat.le_refl _) (ext_new (raw_new s.heap)), rfl,
      post _ _ _ _ (h _ (p.sim.free nw)) (.ref _) (p.sim.allocM nw ⟨#[], 0, [], upd_same, rawN_new (sys_new I)⟩) (Step.allocM nw)⟩⟩
def dDictT : DTE := fun _ m q => ∀ p, m p = none → q (.ref p) (m.set p (.dT []))
theorem de_dictT : DE B X (.Dict [] [] pos) dDictT := ⟨fun pins s σ H Q I ⟨ρ, m, q, p, h, post⟩ => by
  have nw := I.hok.fresh (Nat.le_refl s.heap.objs.size)
  exact wpAny_Dict_empty ⟨.ref s.heap.objs.size, _, I.laid (a := s.heap.objs.size) (o := .ext (rawIs s.heap.objs.size #[] 0)) (t' := s.toks) (fun _ _ q => Heap.get?_push_of_some _ q) (Nat.le_refl _) (ext_new (raw_new s.heap)), rfl,
      post _ _ _ _ (h _ (p.sim.free nw)) (.ref _) (p.sim.allocM nw ⟨#[], 0, [], upd_same, rawN_new (sys_new I), .nil⟩) (Step.allocM nw)⟩⟩
def dDisp1N (tk tv : DTE) : DTE := fun ρ m q => tk ρ m fun y m1 => tv ρ m1 fun v m2 => match keyT y with | some k => ∀ p, m2 p = none → q (.ref p) (m2.set p (.dN [(k, v)])) | none => False
def dDisp1K (tk tv : DTE) : DTE := fun ρ m q => tk ρ m fun y m1 => tv ρ m1 fun v m2 => match keyK y with | some k => ∀ p, m2 p = none → q (.ref p) (m2.set p (.dK [(k, v)])) | none => False
def lenG : DRC
  | [.ref a], m, q => match m a with
    | some (.dK kvs) => q (.int kvs.length) m
    | some (.dN kvs) => q (.int kvs.length) m
    | some (.dF kvs) => q (.int kvs.length) m
    | some (.dT kds) => q (.int kds.length) m
    | _ => lenD [.ref a] m q
  | ds, m, q => lenD ds m q
theorem c_lenG : CallD X (.builtin "len") lenG := by
  intro pins s σ H xs us Q I r ⟨ds, m, q, rs, sim, h, post⟩
  unfold lenG at h
  split at h
  · rename_i a
    split at h
    · rename_i kvs ea
      obtain ⟨v, rfl, rv⟩ := reps1 rs
      cases rv
      obtain ⟨kv, h1, h2⟩ := sim a _ ea
      exact call_lenD pins s σ H _ us Q I r ⟨a, kv, rfl, h1, by rw [← h2.len]; exact post.here h (.int _) sim⟩
    · rename_i kvs ea
      obtain ⟨v, rfl, rv⟩ := reps1 rs
      cases rv
      obtain ⟨es, ep, ys, h1, h2⟩ := sim a _ ea
      rw [Vals.ref1 r]
      have hm : s.heap.DictKeyed (nestedKind X.prog X.w) a (pairsH ys) := ⟨ys, h2.dict I.hok h1, rfl⟩
      have hl : (pairsH ys).length = kvs.length := by rw [pairsH_length, ← h2.rel.len]
      have hz := h2.sz
      have hz' := h2.rel.len
      refine PyProof.Rows.call_len_slot (n := (kvs.length : Nat)) hm.typeIs PySem.F.slot_dict_len (fun Q' hq => len_keyed h2.sys hm (by rw [hl]; exact hq)) (by omega) (by rw [sizeLine_eq] at hz; omega) ⟨.int _, H, I.tok _, ⟨_, rfl⟩, post.here h (.int _) sim⟩
    · rename_i kvs ea
      obtain ⟨v, rfl, rv⟩ := reps1 rs
      cases rv
      obtain ⟨od, kv, h1, h2⟩ := sim a _ ea
      rw [Vals.ref1 r]
      exact d_len I (.inr ⟨od, h1⟩) fun t s' I' => ⟨.int kv.length, H, I', ⟨t, rfl⟩, by rw [← h2.len]; exact post.here h (.int _) sim⟩
    · rename_i kds ea
      obtain ⟨v, rfl, rv⟩ := reps1 rs
      cases rv
      obtain ⟨es, ep, ys, h1, h2, _⟩ := sim a _ ea
      rw [Vals.ref1 r]
      have kvl : (kvT kds).length = kds.length := List.length_map ..
      have hm : s.heap.DictKeyed (nestedKind X.prog X.w) a (pairsH ys) := ⟨ys, h2.dict I.hok h1, rfl⟩
      have hl : (pairsH ys).length = kds.length := by rw [pairsH_length, ← h2.rel.len, kvl]
      have hz := h2.sz
      have hz' := h2.rel.len
      refine PyProof.Rows.call_len_slot (n := (kds.length : Nat)) hm.typeIs PySem.F.slot_dict_len (fun Q' hq => len_keyed h2.sys hm (by rw [hl]; exact hq)) (by omega) (by rw [sizeLine_eq] at hz; omega) ⟨.int _, H, I.tok _, ⟨_, rfl⟩, post.here h (.int _) sim⟩
    · exact c_len pins s σ H xs us Q I r ⟨_, m, q, rs, sim, h, post⟩
  · exact c_len pins s σ H xs us Q I r ⟨_, m, q, rs, sim, h, post⟩
theorem lenG_T {a : Addr} {m : Mem} {q : DQ} {kds : List (D × D)} (h : m a = some (.dT kds)) : lenG [.ref a] m q = q (.int kds.length) m := by unfold lenG; dsimp only; rw [h]
theorem lenG_N {a : Addr} {m : Mem} {q : DQ} {kvs : List (NestedKey × D)} (h : m a = some (.dN kvs)) : lenG [.ref a] m q = q (.int kvs.length) m := by unfold lenG; dsimp only; rw [h]
theorem lenG_r {a : Addr} {m : Mem} {q : DQ} {xs : List D} (h : m a = some (.lst xs)) : lenG [.ref a] m q = q (.int xs.length) m := by unfold lenG; dsimp only; rw [h]; exact lenD_r h
theorem lenG_t {m : Mem} {q : DQ} {xs : List D} : lenG [.tup xs] m q = q (.int xs.length) m := rfl
theorem lenG_f {m : Mem} {q : DQ} {xs : List D} : lenG [.ftup xs] m q = q (.int xs.length) m := rfl
theorem lenG_o {m : Mem} {q : DQ} {xs : List D} : lenG [.rol xs] m q = q (.int xs.length) m := rfl
end
end L2.Lh

namespace L2.Lh
open PySem PySem.Spec PyProof.Rows
/-- an object that was laid ahead, not remembered, is written and remembered -/
theorem late_sim {K : PySem.W.Frag} {H H3 : Hp} {m m3 : Mem} {a : Addr} {u o' : HO} {w : MO} (h0 : H a = none) (h3 : H3 a = some u) (nt : ∀ xs, u ≠ .tup xs) (nf : ∀ ob x, u ≠ .frz ob x) (nk : ∀ b q, u ≠ LamX.CodeO b q) (hm : m3 a = none) (s3 : Sim K H3 m3) (t : Step H m H3 m3) (r : RepO K (upd H3 a o') a w) :
    Ext H3 (upd H3 a o') ∧ Sim K (upd H3 a o') (m3.set a w) ∧ Step H m (upd H3 a o') (m3.set a w) := by
  have ex : Ext H3 (upd H3 a o') := ⟨fun b xs h => by rw [upd_ne (fun z => by subst z; rw [h3] at h; cases h; exact nt xs rfl)]; exact h,
    fun b ob x h => by rw [upd_ne (fun z => by subst z; rw [h3] at h; cases h; exact nf ob x rfl)]; exact h,
    fun b q h => by rw [upd_ne (fun z => by subst z; rw [h3] at h; exact nk b q (Option.some.inj h))]; exact h⟩
  refine ⟨ex, fun b o e => ?_, ⟨t.ext.trans ex, fun b h => ?_, fun b o n h => ?_, fun b o n h => ?_⟩⟩
  · by_cases z : b = a
    · subst z; rw [Mem.set_same] at e; cases e; exact r
    · rw [Mem.set_ne z] at e
      exact (s3 b o e).mono ex fun y q => by rw [upd_ne z]; exact q
  · by_cases z : b = a
    · subst z; exact h0
    · rw [upd_ne z] at h; exact t.dom b h
  · have z : b ≠ a := fun z => by subst z; rw [h0] at h; cases h
    rw [upd_ne z]; exact t.keep b o n h
  · have z : b ≠ a := fun z => by subst z; rw [h0] at h; cases h
    rw [Mem.set_ne z]; exact t.new b o n h
section
variable {X : Cx} {B : Bs} {ke ve : Expr} {tk tv : DTE} {pos : Pos}
theorem de_disp1K (hk : DE B X ke tk) (hv : DE B X ve tv) : DE B X (.Dict [some ke] [ve] pos) (dDisp1K tk tv) :=
  pe_imp (pe_disp (pps_cons hk hv pps_nil) rfl rfl (by intro z; cases z) (by show 1 ≤ 15; decide)) fun σ H Q ⟨ρ, m, q, p, h, post⟩ a nw => by
    have st0 : Step H m (upd H a (.dK [])) m := Step.alloc nw
    refine ⟨ρ, m, _, p.next (p.sim.alloc nw) st0, h, fun y m1 v H1 h1 r1 s1 t1 => ⟨ρ, m1, _, (p.next (p.sim.alloc nw) st0).next s1 t1, h1, fun z m2 vz H2 h2 r2 s2 t2 => ?_⟩⟩
    have tt := (t1.trans t2)
    have hm0 : m a = none := p.sim.free nw
    have ha2 : H2 a = some (.dK []) := tt.keep a _ hm0 upd_same
    have hm2 : m2 a = none := tt.new a _ hm0 upd_same
    refine ⟨ha2, ?_⟩
    split at h2
    · rename_i k ek
      have ey := keyK_rep r1 ek
      subst ey
      refine ⟨[(k, vz)], rfl, by show 1 ≤ 15; decide, ?_⟩
      have ex0 : Ext H2 (upd H2 a (.dK (mergeK [] [(k, vz)]))) := ⟨fun b xs h => by rw [upd_ne (fun z => by subst z; rw [ha2] at h; cases h)]; exact h, fun b ob x h => by rw [upd_ne (fun z => by subst z; rw [ha2] at h; cases h)]; exact h, fun b q h => by rw [upd_ne (fun z => by subst z; rw [ha2] at h; unfold LamX.CodeO at h; cases h)]; exact h⟩
      obtain ⟨_, g2, g3⟩ := late_sim (o' := .dK (mergeK [] [(k, vz)])) (w := .dK [(k, z)]) nw ha2 (fun _ z => nomatch z) (fun _ _ z => nomatch z) (fun _ _ z => by unfold LamX.CodeO at z; cases z) hm2 s2 (st0.trans tt) ⟨_, upd_same, .cons ⟨rfl, r2.mono ex0⟩ .nil⟩
      exact post _ _ _ _ (h2 a hm2) (.ref a) g2 g3
    · exact h2.elim
end
end L2.Lh

/-! enumerate of a tuple -/
namespace L2.Lh
open PySem PySem.Spec PyProof.Rows
open AutoSeq1 (wpAny_loadPart')
section
variable {prog : Program} {w : World} {A : Around} {E : Value → Shared → Prop} {s : Shared}
theorem enumNewT (t : Addr) (ob : Obj) (its : Array Value) (n : Nat) (hc : ob.cls = .type "tuple") (hd : ob.data = .seq its n) :
    Meets (Builtin.«enumerate.__new__» ⟨[.type "enumerate", .ref t], []⟩) (fun _ R s₀ => s₀.heap.get? t = some ob ∧
      R (.ok (.ret (.ref (s₀.heap.push { cls := .type "tuple_iterator", data := .fields #[.ref t, .int 0 0] }).objs.size)))
        { s₀ with heap := (s₀.heap.push { cls := .type "tuple_iterator", data := .fields #[.ref t, .int 0 0] }).push { cls := .type "enumerate", data := .fields #[.none, .bool false, .ref s₀.heap.objs.size, rawInt 0, .none, .none] } }) :=
  .of_wp fun P₀ w₀ A₀ R₀ s₀ hyp => by
    obtain ⟨hp, gg, dd, tk, os⟩ := s₀
    obtain ⟨ht, hyp⟩ := hyp
    obtain ⟨oc, od, odt, osl⟩ := ob
    cases hc
    cases hd
    have hsub := sub_enumerate
    have hT : Heap.IsTuple (Shared.heap ⟨hp, gg, dd, tk, os⟩) t its := ⟨_, ht, rfl, n, rfl⟩
    wp_walk using wpAny_loadPart' ht
    refine wpAny_stack_any fun st => wpAny_pure ?_
    split
    · rename_i c _ _ _ _ _
      cases (c == Value.type "enumerate") <;> (wp_walk using wpAny_loadPart' ht, wpAny_pyIter_tuple hT; exact ⟨_, rfl, hyp⟩)
    · wp_walk using wpAny_loadPart' ht, wpAny_pyIter_tuple hT
      exact ⟨_, rfl, hyp⟩
theorem enumCallT {t : Addr} {its : Array Value} {Q : Value → Shared → Prop} (hT : s.heap.IsTuple t its)
    (hyp : ∀ h₁, IsEnum h₁ (s.heap.objs.size + 1) s.heap.objs.size 0 .none → h₁.IsTupleIter s.heap.objs.size t 0 → (∀ b o, s.heap.get? b = some o → h₁.get? b = some o) → Q (.ref (s.heap.objs.size + 1)) { s with heap := h₁ }) :
    wpAny (model prog w) A (call (.type "enumerate") [.ref t]) Q E s := by
  obtain ⟨ob, ho, hc, n, hd⟩ := hT
  refine callType_new F.called_enumerate (by decide) (F.typeCall_enumerate_1 _) (F.newCall_enumerate_1 _) (fun obj => F.args_object_init_2 obj _) F.entry_enumerate_new (enumNewT t ob its n hc hd) ⟨ho, ?_⟩
  have sz1 : (s.heap.push { cls := .type "tuple_iterator", data := .fields #[.ref t, .int 0 0] }).objs.size = s.heap.objs.size + 1 := Heap.size_push ..
  have isE : IsEnum ((s.heap.push { cls := .type "tuple_iterator", data := .fields #[.ref t, .int 0 0] }).push { cls := .type "enumerate", data := .fields #[.none, .bool false, .ref s.heap.objs.size, rawInt 0, .none, .none] }) (s.heap.objs.size + 1) s.heap.objs.size 0 .none := by
    rw [← sz1]
    exact Heap.get?_push_size _ rfl
  show _ ∧ _
  rw [sz1]
  exact ⟨⟨_, isE, rfl⟩, hyp _ isE ⟨_, Heap.get?_push_of_some _ (Heap.get?_push_size _ rfl), rfl, rfl⟩ fun b o x => Heap.get?_push_of_some _ (Heap.get?_push_of_some _ x)⟩
end
/-- the tuple at a, each item in a new pair -/
def ItEt (K : PySem.W.Frag) (a : Addr) : It where
  go := fun i H => ∃ (xs : List V) (x : V), SqT K H a xs ∧ xs[i]? = some x
  yld := fun i H v H' => ∃ T x, v = .ref T ∧ H T = none ∧ H' = upd H T (.tup [.int (i : Nat), x]) ∧ ∀ xs, SqT K H a xs → xs[i]? = some x
  stop := fun i H => ∃ xs : List V, SqT K H a xs ∧ xs.length = i
theorem turnEt {P : Program} {w : World} {K : PySem.W.Frag} {elts : List Expr} {kk : Nat} {tpos : Pos} (a en it : Addr) (its : Array Value) (nai : a ≠ it) (nei : en ≠ it) (nea : en ≠ a) :
    Turn P w K (.Tuple elts kk tpos) (ItEt K a) [en, it] en (fun i h => (∃ old, IsEnum h en it ((i : Nat) : Int) old) ∧ h.IsTupleIter it a i) where
  mem := by simp
  obj := fun i h st b hb => by
    obtain ⟨⟨old, he⟩, o, ho, hc, hd⟩ := st
    rcases (show b = en ∨ b = it by simpa using hb) with z | z
    · subst z; exact ⟨_, he, fun v q => nomatch q⟩
    · subst z; exact ⟨o, ho, fun v q => by rw [hd] at q; cases q⟩
  keep := fun i h h' st k => by
    obtain ⟨⟨old, he⟩, hi⟩ := st
    exact ⟨⟨old, k en (by simp) _ he⟩, hi.at fun o q => k it (by simp) o q⟩
  item := by
    intro X hP hw hK hc i pins s σ H E I hf st hg
    subst hP hw hK
    obtain ⟨⟨old, he⟩, hit⟩ := st
    obtain ⟨xs, x, hq, hx⟩ := hg
    obtain ⟨itv, rv, p, hz⟩ := I.tuple hq
    obtain ⟨u, hu, ru⟩ := rv.get hx
    have len1 : en < s.heap.objs.size := Heap.lt_size he
    have lit : it < s.heap.objs.size := by obtain ⟨_, q, _⟩ := hit; exact Heap.lt_size q
    have hlt : i < itv.toArray.size := by
      have := (List.getElem?_eq_some_iff.mp hu).1
      simpa using this
    have D := Draws.tuple (prog := X.prog) (w := X.w) (A := X.A.in1) (I.ok.hd hc) it a nai itv.toArray
    refine wpAny_pyNext_enum_itemD D he ⟨hit, (show s.heap.IsTuple a itv.toArray from p)⟩ hlt nei (by simp [nei, nea]) fun y h₁ tk hy ho hst hT hsz hk => ?_
    have ey : y = u := by
      have : itv.toArray[i]? = some u := by simpa using hu
      rw [this] at hy; cases hy; rfl
    subst ey
    refine ⟨_, rfl, wpAny_letOwnedTupleGo_enum (s := { s with heap := h₁, toks := tk + 1 }) ho fun h₂ he₂ sb => ?_⟩
    have hT2 : h₂.get? s.heap.objs.size = some { cls := .type "tuple", data := .seq #[.int i tk, y] } := (sb.2 _ (Nat.ne_of_gt len1)).trans hT
    have new : ObjOk X.prog X.w (upd H s.heap.objs.size (.tup [.int (i : Nat), x])) h₂ s.heap.objs.size (.tup [.int (i : Nat), x]) :=
      ⟨by show 2 ≤ sizeLine; decide, [.int i tk, y], .cons ⟨_, rfl⟩ (.cons ru .nil), ⟨_, hT2, rfl, _, rfl⟩⟩
    have I1 : Inv X pins σ (upd H s.heap.objs.size (.tup [.int (i : Nat), x])) { s with heap := h₂, toks := tk + 1 } :=
      I.turnedNew (ch := [en, it]) (fun b ob hb q => by
        have nb : b ≠ en ∧ b ≠ it := by
          constructor <;> intro z <;> exact hb (by simp [z])
        exact (sb.2 b nb.1).trans (hk b ob nb.1 nb.2 q)) hf (Nat.le_refl _) new
    refine ⟨.ref s.heap.objs.size, _, I1, rfl, ⟨_, x, rfl, I.hok.fresh (Nat.le_refl _), rfl, fun ys hy2 => by rw [I.tuple_inj hy2 hq]; exact hx⟩, ⟨⟨y, ?_⟩, hst.1.at fun o q => (sb.2 it (Ne.symm nei)).trans q⟩, fun b hb => ?_⟩
    · rw [show ((i + 1 : Nat) : Int) = (i : Int) + 1 by omega]; exact he₂
    · have lb : b < s.heap.objs.size := by
        rcases (show b = en ∨ b = it by simpa using hb) with z | z
        · subst z; exact len1
        · subst z; exact lit
      rw [upd_ne (Nat.ne_of_lt lb)]
      exact (hf b hb).1
  done := by
    intro X hP hw hK hc i pins s σ H E I hf st hg
    subst hP hw hK
    obtain ⟨⟨old, he⟩, hit⟩ := st
    obtain ⟨xs, hq, hx⟩ := hg
    obtain ⟨itv, rv, p, hz⟩ := I.tuple hq
    obtain ⟨f0, f1, f2, f3, f4, f5⟩ := hf it (by simp)
    have hl := rv.length
    have D := Draws.tuple (prog := X.prog) (w := X.w) (A := X.A.in1) (I.ok.hd hc) it a nai itv.toArray
    have en' : i = itv.toArray.size := by simp; omega
    refine wpAny_pyNext_enum_endD D he ⟨by rw [← en']; exact hit, (show s.heap.IsTuple a itv.toArray from p)⟩ fun h₁ eb => ⟨rfl, I.turned (t' := s.toks) (fun b o hb q => eb b o hb q) f0 f1 f3 f4 f5⟩
  self := fun A i s Q E st h => by obtain ⟨⟨_, he⟩, _⟩ := st; exact wpAny_pyIter_enum he h
theorem pi_enumG {X : Cx} {e : Expr} {ta : TA} {p pos tpos : Pos} {elts : List Expr} {kk : Nat} (hg : Gl X "enumerate") (hm : X.mg "enumerate" = none) (ha : PA X [e] ta) (hs : starEach [e] X.env = [(false, eval e X.env)] := by rfl) :
    PI X (.Tuple elts kk tpos) (.Call (.Name "enumerate" p) [e] [] pos) (fun σ H R => ta σ H fun vs H1 => ∃ a xs, vs = [.ref a] ∧ ((SqT X.K H1 a xs ∧ R (ItEt X.K a) H1) ∨ (SqL X.K H1 a xs ∧ R (Ite X.K a) H1))) := by
  refine ⟨fun pins s σ H R I wish => ?_⟩
  refine Call_ (ld_blt I hg hm boot_enumerate (PyProof.Rows.callWith_type1 (thn (ha.run pos pins s σ H _ I wish) fun us s1 ⟨vs, H1, I1, r1, a, xs, ex, which⟩ => ?_) hs rfl))
  subst ex
  rw [Vals.ref1 r1]
  have fresh : ∀ b ∈ [s1.heap.objs.size + 1, s1.heap.objs.size], FpOk X pins H1 b := fun b hb => by
    have hle : s1.heap.objs.size ≤ b := by
      rcases (show b = s1.heap.objs.size + 1 ∨ b = s1.heap.objs.size by simpa using hb) with z | z
      · rw [z]; exact Nat.le_succ _
      · rw [z]; exact Nat.le_refl _
    exact I1.fpOk hle (I1.hok.fresh hle)
  rcases which with ⟨hq, q⟩ | ⟨hq, q⟩
  · obtain ⟨itv, rv, p', hz⟩ := I1.tuple hq
    have pT : s1.heap.IsTuple a itv.toArray := p'
    have la : a < s1.heap.objs.size := by obtain ⟨o, e, _⟩ := pT; exact Heap.lt_size e
    refine enumCallT pT fun h₁ isE hit hk => wpAny_pyIter_enum isE ?_
    have I2 : Inv X pins σ H1 { s1 with heap := h₁ } := I1.kept (t' := s1.toks) hk
    exact ⟨s1.heap.objs.size + 1, [s1.heap.objs.size + 1, s1.heap.objs.size], _, _, H1, rfl, I2, turnEt a (s1.heap.objs.size + 1) s1.heap.objs.size itv.toArray (Nat.ne_of_lt la) (Nat.succ_ne_self _) (Nat.ne_of_gt (Nat.lt_succ_of_lt la)), ⟨⟨.none, isE⟩, hit⟩, fresh, q⟩
  · obtain ⟨itv, rv, p', hz⟩ := I1.list hq
    refine call_enumerate_list p'.isList fun h₁ isE hit _ hk => wpAny_pyIter_enum isE ?_
    exact ⟨s1.heap.objs.size + 1, [s1.heap.objs.size + 1, s1.heap.objs.size], _, _, H1, rfl, I1.kept (t' := s1.toks) hk, turn_enum a (s1.heap.objs.size + 1) s1.heap.objs.size, ⟨⟨.none, isE⟩, hit, Nat.succ_ne_self _⟩, fresh, q⟩
section
variable {X : Cx} {B : Bs}
def iEnum (t : DTE) : DTI := fun ρ m q => t ρ m fun d m' => match d with
  | .tup xs => q ⟨enumFrom 0 xs, fun _ => True⟩ m'
  | .ftup xs => q ⟨enumFrom 0 xs, fun _ => True⟩ m'
  | .ref a => match m' a with
    | some (.lst xs) => q ⟨enumFrom 0 xs, fun m'' => m'' a = some (.lst xs)⟩ m'
    | _ => False
  | _ => False
theorem ItOk.enumT {K : PySem.W.Frag} {a : Addr} {vs : List V} {xs : List D} {H0 : Hp} {m0 : Mem} (h : SqT K H0 a vs) (hs : ∀ H', Ext H0 H' → SqT K H' a vs) (r : Reps K H0 xs vs) : ItOk K ⟨enumFrom 0 xs, fun _ => True⟩ (ItEt K a) H0 m0 where
  go := fun i d m H e s st c => by
    obtain ⟨e0, h0, hd⟩ := enumFrom_get xs 0 i d e
    obtain ⟨v, h1, h2⟩ := (r.mono st.ext).get h0
    refine ⟨⟨vs, v, hs _ st.ext, h1⟩, fun x H' ⟨T, z, e1, e2, e3, e4⟩ => ?_⟩
    subst e1 e3
    have := e4 vs (hs _ st.ext)
    rw [h1] at this
    cases this
    rw [hd, Nat.zero_add]
    exact ⟨.tup upd_same (.cons (.int _) (.cons (h2.mono (upd_new e2)) .nil)), s.alloc e2, Step.alloc e2⟩
  stop := fun m H s st c => ⟨vs, hs _ st.ext, by rw [enumFrom_length]; exact r.length.symm⟩
theorem di_enum {e : Expr} {te : DTE} {p pos tpos : Pos} {elts : List Expr} {kk : Nat} (hg : Gl X "enumerate") (hm : X.mg "enumerate" = none) (he : DE B X e te) (hs : starEach [e] X.env = [(false, eval e X.env)] := by rfl) :
    DI B X (.Tuple elts kk tpos) (.Call (.Name "enumerate" p) [e] [] pos) (iEnum te) :=
  pi_imp (pi_enumG hg hm (pa_cons he pa_nil hs) hs) fun σ H R ⟨ρ, m, q, p, h, post⟩ => ⟨ρ, m, _, p, h, fun d m1 v H1 h1 r1 s1 t1 => by
    cases r1 with
    | tup g rs => exact ⟨_, _, rfl, .inl ⟨SqT.of g, post _ m1 _ H1 h1 (ItOk.enumT (SqT.of g) (fun H' x => SqT.of (x.tup _ _ g)) rs) s1 t1⟩⟩
    | ftup g n rs => exact ⟨_, _, rfl, .inl ⟨.inl (.inr ⟨_, g⟩), post _ m1 _ H1 h1 (ItOk.enumT (.inl (.inr ⟨_, g⟩)) (fun H' x => .inl (.inr ⟨_, x.frz _ _ _ g⟩)) rs) s1 t1⟩⟩
    | ref a =>
      dsimp only at h1
      split at h1
      · rename_i xs ea
        obtain ⟨vs, hv, _⟩ := s1 a _ ea
        exact ⟨a, vs, rfl, .inr ⟨SqL.of hv, post _ m1 _ H1 h1 ItOk.enumL s1 t1⟩⟩
      · exact h1.elim
    | _ => exact (show False from h1).elim⟩
end
end L2.Lh
namespace L2.Lh
open PySem PySem.Spec PyProof.Rows
/-! ### < of ints, of tuples of ints -/
def intsT : D → Option (List Int)
  | .tup xs => intsOf xs
  | .ftup xs => intsOf xs
  | _ => none
def ltG : DR2 := fun x y m q => match x, y with
  | .int i, .int j => q (.bl (decide (i < j))) m
  | x, y => match intsT x, intsT y with
    | some ns, some ms => q (.bl (HT.lexLt ns ms)) m
    | _, _ => False
theorem ltG_ii {i j : Int} {m : Mem} {q : DQ} : ltG (.int i) (.int j) m q = q (.bl (decide (i < j))) m := rfl
/-! ### == of some data -/
/-! ### keys that are tuples of ints -/
def numK (ns : List Int) : NestedKey := .tup (ns.map .num)
theorem keyNs_ints : ∀ ns : List Int, keyNs (ns.map D.int) = some (ns.map .num)
  | [] => rfl
  | n :: ns => by rw [List.map_cons, keyNs, keyN, keyNs_ints ns]; rfl
theorem depth_nums : ∀ ns : List Int, NestedKey.depthAll (ns.map .num) = 0
  | [] => rfl
  | n :: ns => by rw [List.map_cons, NestedKey.depthAll, depth_nums ns]; rfl
theorem numK_inj {a b : List Int} (h : numK a = numK b) : a = b := by
  unfold numK at h
  injection h with h
  have : ∀ {a b : List Int}, a.map NestedKey.num = b.map .num → a = b := by
    intro a
    induction a with
    | nil => intro b h; cases b with | nil => rfl | cons _ _ => cases h
    | cons x a ih =>
      intro b h
      cases b with
      | nil => cases h
      | cons y b => rw [List.map_cons, List.map_cons] at h; injection h with h1 h2; injection h1 with h1; rw [h1, ih h2]
  exact this h
end L2.Lh

/-! try .. except X as n: the caught error stays known -/
namespace L2.Lh
open PySem PySem.Spec PyProof.Rows
section
variable {X : Cx} {pins : List (Addr × Obj)} {σ : St} {H : Hp} {s : Shared}
/-- an object of ours, younger than the entry, is tracked from now on -/
theorem track {a : Addr} {o : HO} (I : Inv X pins σ H s) (h0 : X.s_0.heap.get? a = none) (hn : H a = none) (nL : a ≠ X.env.locals) (nC : ∀ x c, X.env.cells.lookup x = some c → c ≠ a) (nP : ∀ p ∈ X.pn ++ pins, p.1 ≠ a) (new : ObjOk X.prog X.w (upd H a o) s.heap a o) : Inv X pins σ (upd H a o) s where
  ok := I.ok
  os := I.os
  bare := I.bare
  base := {
    keep := I.base.keep
    slot := I.base.slot
    free := fun b ob q z hx => by
      rw [upd_ne (fun e => by subst e; rw [h0] at q; cases q)]
      exact I.base.free b ob q z hx
    there := I.base.there
    tups := fun b xs q => by
      have := I.base.tups b xs q
      rw [upd_ne (fun e => by subst e; rw [hn] at this; cases this)]
      exact this
    frzs := fun b ob u q => by
      have := I.base.frzs b ob u q
      rw [upd_ne (fun e => by subst e; rw [hn] at this; cases this)]
      exact this
    tbls := fun b ps q => by
      obtain ⟨more, this⟩ := I.base.tbls b ps q
      refine ⟨more, ?_⟩
      rw [upd_ne (fun e => by subst e; rw [hn] at this; cases this)]
      exact this }
  loc := I.loc
  cell := I.cell
  free := by rw [upd_ne nL.symm]; exact I.free
  freeC := fun x c e => by rw [upd_ne (nC x c e)]; exact I.freeC x c e
  pin := fun p hp => by
    obtain ⟨q1, q2, q3⟩ := I.pin p hp
    exact ⟨q1, by rw [upd_ne (nP p hp)]; exact q2, q3⟩
  hok := fun b u q => by
    by_cases e : b = a
    · subst e; rw [upd_same] at q; cases q; exact new
    · rw [upd_ne e] at q
      exact (I.hok b u q).stay (fun _ _ _ z => z) (fun c z => by rw [upd_ne (ne_of_none z hn)]; exact z) fun c xs z => by rw [upd_ne (ne_of_none z hn)]; exact z
  len := I.len
end
section
variable {X : Cx} {x n : Str} {c : Value} {i : Nat} {body suite : List Stmt} {b₀ : Stmt} {np pos pos' : Pos} {tb : WX → TS} {ts : Addr → Value → Option Addr → TS} {Wout : WX}
end
end L2.Lh

/-! try .. except X as n over plain data; isinstance of a kept error -/
namespace L2.Lh
open PySem PySem.Spec PyProof.Rows
/-- what is known of classes: is an instance of the first one of the second? -/
abbrev CT := List (Value × Value × Bool)
inductive CtOk (K : PySem.W.Frag) : CT → Prop
  | nil : CtOk K []
  | own {C : Addr} {u : Value} {b : Bool} {r : CT} : ExcC K C → PySem.W.kitOne K (.ref C) u = some b → CtOk K r → CtOk K ((.ref C, u, b) :: r)
  | ty {n : String} {u : Value} {b : Bool} {r : CT} : PySem.W.kitOne K (.type n) u = some b → CtOk K r → CtOk K ((.type n, u, b) :: r)
theorem CtOk.kit {K : PySem.W.Frag} {t u : Value} {b : Bool} : ∀ {tb : CT}, CtOk K tb → (t, u, b) ∈ tb → PySem.W.kitOne K t u = some b
  | _, .nil, h => by cases h
  | _, .own _ k r, h => by
    cases h with
    | head => exact k
    | tail _ h => exact r.kit h
  | _, .ty k r, h => by
    cases h with
    | head => exact k
    | tail _ h => exact r.kit h
theorem CtOk.exc {K : PySem.W.Frag} {C : Addr} {u : Value} {b : Bool} : ∀ {tb : CT}, CtOk K tb → (Value.ref C, u, b) ∈ tb → ExcC K C
  | _, .nil, h => by cases h
  | _, .own e k r, h => by
    cases h with
    | head => exact e
    | tail _ h => exact r.exc h
  | _, .ty k r, h => by
    cases h with
    | tail _ h => exact r.exc h
section
variable {X : Cx} {B : Bs}
/-- what an except clause takes -/
def ExOk (K : PySem.W.Frag) (xt : CT) : Prop := ∀ t ∈ xt, PySem.W.exmOne K t.1 t.2.1 = some t.2.2
/-- a clause's table is about classes alone, never about marks -/
theorem ExOk.plain {K : PySem.W.Frag} {xt : CT} (x : ExOk K xt) {c u : Value} {b : Bool} (h : (c, u, b) ∈ xt) : xvC c = c ∧ xvD c = none := by
  have e := x _ h
  cases c with
  | int i t =>
    exfalso
    simp only [PySem.W.exmOne, PySem.W.kitCls] at e
    split at e
    · split at e
      · split at e <;> simp [PySem.W.subIn] at e
      · split at e <;> simp [PySem.W.subIn] at e
      · cases e
    · cases e
  | _ => exact ⟨rfl, rfl⟩
end
end L2.Lh

/-! list methods, max, sum, t[::-1], o[i] as a target -/
namespace L2.Lh
open PySem PySem.Spec PyProof.Rows
section
variable {X : Cx}
/-- a.extend(b) -/
def extendD : DRM
  | .ref a, [.ref b], m, q => ∃ xs ys, m a = some (.lst xs) ∧ m b = some (.lst ys) ∧ xs.length + ys.length ≤ sizeLine ∧ q .non (m.set a (.lst (xs ++ ys)))
  | _, _, _, _ => False
theorem m_extend : MtR X "list.extend" (upM X.K extendD) := by
  intro pins s σ H x xs v us Q I rx rv ⟨d, ds, m, q, r1, r2, sim, h, post⟩
  unfold extendD at h
  split at h
  · rename_i a b
    obtain ⟨xs1, ys, ha, hb, hz, hq⟩ := h
    cases r1
    obtain ⟨vs, hv, rs⟩ := sim a _ ha
    obtain ⟨ws, hw, rw'⟩ := sim b _ hb
    cases r2 with
    | cons q1 q2 =>
      cases q2
      cases q1
      exact mt_extend pins s σ H _ _ v us Q I rx rv ⟨a, b, vs, ws, rfl, rfl, hv, hw, by rw [← rs.length, ← rw'.length]; exact hz, post.wrt ha hq (rs.append rw') .non sim⟩
  · exact h.elim
def reverseD : DRM
  | .ref a, [], m, q => ∃ xs, m a = some (.lst xs) ∧ q .non (m.set a (.lst xs.reverse))
  | _, _, _, _ => False
theorem m_reverse : MtR X "list.reverse" (upM X.K reverseD) := by
  intro pins s σ H x xs v us Q I rx rv ⟨d, ds, m, q, r1, r2, sim, h, post⟩
  unfold reverseD at h
  split at h
  · rename_i a
    obtain ⟨xs1, ha, hq⟩ := h
    cases r1
    obtain ⟨vs, hv, rs⟩ := sim a _ ha
    cases r2
    exact mt_reverse pins s σ H _ _ v us Q I rx rv ⟨a, vs, rfl, rfl, hv, post.wrt ha hq rs.reverse .non sim⟩
  · exact h.elim
/-- max, sum of a list of ints -/
def maxD : DRC
  | [d], m, q => match itemsL m d with
    | some xs => match intsOf xs with
      | some ns => 0 < ns.length ∧ ∀ k, k ∈ ns → (∀ y ∈ ns, y ≤ k) → q (.int k) m
      | none => False
    | none => False
  | _, _, _ => False
theorem c_max (hc : X.calm = true) : CallD X (.builtin "max") maxD := by
  intro pins s σ H xs us Q I r ⟨ds, m, q, rs, sim, h, post⟩
  unfold maxD at h
  split at h
  · split at h
    · rename_i xs' ex
      split at h
      · rename_i ns en
        obtain ⟨v, rfl, rv⟩ := reps1 rs
        obtain ⟨a, vs, rfl, hsq, rvs⟩ := sim.sq rv ex
        have e1 := intsOf_ok en
        subst e1
        have e2 := reps_ints rvs
        subst e2
        exact cr_max hc pins s σ H _ us Q I r ⟨a, ns, rfl, hsq, h.1, fun k hk hm => post.here (h.2 k hk hm) (.int _) sim⟩
      · exact h.elim
    · exact h.elim
  · exact h.elim
end
/-! ### o[i] as a target -/
section
variable {X : Cx} {B : Bs}
end
/-! ### a comprehension to a cell -/
theorem sw_cell {elt : Expr} {gs : List Comprehension} {scope : Scope} {pos py : Pos} {y : Str} {l : Nat} {env : Env} (hy : env.scope.names.lookup y = some .cell) : swapsWith (.ListComp elt gs scope pos) (some (.Name y py)) l env = pure false := by
  have ky : env.kindOf y = some .cell := hy
  unfold swapsWith
  simp only [ky]
  have : (some NameKind.cell == some NameKind.local) = false := by decide
  simp [this]
end L2.Lh
namespace HT2
open PySem PySem.Spec PyProof.Rows HT
section
variable {prog : Program} {w : World} {A : Around} {E : Value → Shared → Prop} {s : Shared}
end
end HT2
namespace L2.Lh
open PySem PySem.Spec PyProof.Rows
section
variable {X : Cx} {B : Bs}
end
end L2.Lh

namespace L2.Lh
open PySem PySem.Spec PyProof.Rows
section
variable {X : Cx} {B : Bs}
/-! ### a, b = x, y of plain local names -/
/-! ### xs += ys -/
end
end L2.Lh
namespace L2.Lh
open PySem PySem.Spec PyProof.Rows
section
variable {X : Cx} {B : Bs}
theorem room65 {k : Nat} {A : Around} (r : Room k A) : A.units + 65 < cLine := by have := r.un; omega
/-- x in y, data of any depth -/
def inA (neg : Bool) : DR2 := fun x y m q => match pyD m x, pyD m y with
  | some a, some (.list ps) => SeqAt.shaped a = true ∧ SeqAt.shaped (.list ps) = true ∧ q (.bl (if neg then !(ps.any fun z => PyData.eqv z a) else ps.any fun z => PyData.eqv z a)) m
  | some a, some (.tuple ps) => SeqAt.shaped a = true ∧ SeqAt.shaped (.tuple ps) = true ∧ q (.bl (if neg then !(ps.any fun z => PyData.eqv z a) else ps.any fun z => PyData.eqv z a)) m
  | _, _ => False
theorem d_inA (hu : X.A.units + 65 < cLine) : OpD X (compareOp .In) (inA false) := by
  intro pins s σ H x y v u Q I rx ry ⟨dx, dy, m, q, r1, r2, sim, h, post⟩
  unfold inA at h
  split at h
  · rename_i a ps e1 e2
    obtain ⟨as, p1⟩ := Dp.reads I a x v (pyW_ok (pyA_ok sim 3) r1 e1) rx
    obtain ⟨bs, p2⟩ := Dp.reads I (.list ps) y u (pyW_ok (pyA_ok sim 3) r2 e2) ry
    exact SeqAt.in_list_reads p2 p1 (SeqAt.canLay_of_shaped h.2.1) (SeqAt.canLay_of_shaped h.1) (room_in_shaped h.1 hu) ⟨.bl _, H, I, rfl, post.here h.2.2 (.bl _) sim⟩
  · rename_i a ps e1 e2
    obtain ⟨as, p1⟩ := Dp.reads I a x v (pyW_ok (pyA_ok sim 3) r1 e1) rx
    obtain ⟨bs, p2⟩ := Dp.reads I (.tuple ps) y u (pyW_ok (pyA_ok sim 3) r2 e2) ry
    exact SeqAt.in_tuple_reads p2 p1 (SeqAt.canLay_of_shaped h.2.1) (SeqAt.canLay_of_shaped h.1) (room_in_shaped h.1 hu) ⟨.bl _, H, I, rfl, post.here h.2.2 (.bl _) sim⟩
  · exact h.elim
theorem d_notInA (hu : X.A.units + 65 < cLine) : OpD X (compareOp .NotIn) (inA true) := by
  intro pins s σ H x y v u Q I rx ry ⟨dx, dy, m, q, r1, r2, sim, h, post⟩
  unfold inA at h
  split at h
  · rename_i a ps e1 e2
    obtain ⟨as, p1⟩ := Dp.reads I a x v (pyW_ok (pyA_ok sim 3) r1 e1) rx
    obtain ⟨bs, p2⟩ := Dp.reads I (.list ps) y u (pyW_ok (pyA_ok sim 3) r2 e2) ry
    exact SeqAt.notIn_list_reads p2 p1 (SeqAt.canLay_of_shaped h.2.1) (SeqAt.canLay_of_shaped h.1) (room_in_shaped h.1 hu) ⟨.bl _, H, I, rfl, post.here h.2.2 (.bl _) sim⟩
  · rename_i a ps e1 e2
    obtain ⟨as, p1⟩ := Dp.reads I a x v (pyW_ok (pyA_ok sim 3) r1 e1) rx
    obtain ⟨bs, p2⟩ := Dp.reads I (.tuple ps) y u (pyW_ok (pyA_ok sim 3) r2 e2) ry
    exact SeqAt.notIn_tuple_reads p2 p1 (SeqAt.canLay_of_shaped h.2.1) (SeqAt.canLay_of_shaped h.1) (room_in_shaped h.1 hu) ⟨.bl _, H, I, rfl, post.here h.2.2 (.bl _) sim⟩
  · exact h.elim
end
end L2.Lh
namespace L2.Lh
open PySem PySem.Spec PyProof.Rows
/-- what is known of an own class of errors under ValueError -/
structure ExcF (K : PySem.W.Frag) (mg : Str → Option Value) (x : Str) (C : Addr) : Prop where
  q : PySem.W.excIn K C [.type "ValueError", .type "Exception", .type "BaseException", .type "object"] "ValueError.__new__" = true
  g : mg x = some (.ref C)
  k : PySem.W.keepIn K (.ref C) = true
  b : PySem.W.subIn K (.ref C) (.type "BaseException") = some true
  t : PySem.W.typeIn K (.ref C) = some (.type "type")
end L2.Lh

/-! lambdas handed to a def of the law, over plain data -/
namespace L2.Lh
open PySem PySem.Spec PyProof.Rows LamX
abbrev lamN (X : Cx) : Str := X.env.qual ++ "<lambda>"
abbrev lamO (X : Cx) (params : Arguments) (body : Expr) (scope : Scope) (pm : Value) (c' : Addr) (ctv : Value) : Obj := PySem.W.kla_obj "<lambda>" (lamN X) params body scope (cloFrom X.env.cells scope.names []) pm c' ctv
/-- how the heap moves where a lambda is made -/
inductive Made (P c' : Addr) (nm : Str) (H : Hp) : Hp → Prop
  | old : Made P c' nm H H
  | new {ps more : Array Value} : H P = some (.tbl ps) → H c' = none → Made P c' nm H (upd (upd H P (.tbl (ps ++ more))) c' (CodeO c' nm))
section
variable {X : Cx} {pins : List (Addr × Obj)} {σ : L2.St} {H : Hp} {s : Shared}
end
theorem Made.sim {K : PySem.W.Frag} {P c' : Addr} {nm : Str} {H H1 : Hp} {m : Mem} (d : Made P c' nm H H1) (s : Sim K H m) (hP : m P = some (.tbl nm)) (t : TabS H1 P nm) : Sim K H1 m ∧ Step H m H1 m := by
  cases d with
  | old => exact ⟨s, Step.refl _ _⟩
  | @new ps more e f =>
    have pc : P ≠ c' := ne_of_none e f
    have other : ∀ b o, H b = some o → b ≠ P → upd (upd H P (.tbl (ps ++ more))) c' (CodeO c' nm) b = some o := fun b o h n => by
      rw [upd_ne (ne_of_none h f), upd_ne n]; exact h
    have ex : Ext H (upd (upd H P (.tbl (ps ++ more))) c' (CodeO c' nm)) := ⟨fun b xs h => other b _ h (fun z => by subst z; rw [e] at h; cases h),
      fun b ob x h => other b _ h (fun z => by subst z; rw [e] at h; cases h), fun b q h => other b _ h (fun z => by subst z; rw [e] at h; exact codeO_ne ps (Option.some.inj h).symm)⟩
    refine ⟨fun a o ha => ?_, ⟨ex, fun b h => ?_, fun b o hn h => other b o h (fun z => by subst z; rw [hP] at hn; cases hn), fun _ _ h _ => h⟩⟩
    · by_cases z : a = P
      · subst z; rw [hP] at ha; cases ha; exact t
      · exact (s a o ha).mono ex fun u hu => other a u hu z
    · by_cases z : b = c'
      · subst z; exact f
      · by_cases z2 : b = P
        · subst z2; rw [upd_ne z, upd_same] at h; cases h
        · rw [upd_ne z, upd_ne z2] at h; exact h
/-! ### over plain data -/
end L2.Lh

/-! try over plain data, the body knowing where the def stands -/
namespace L2.Lh
open PySem PySem.Spec PyProof.Rows LamX
section
variable {X : Cx} {B : Bs}
end
end L2.Lh

/-! the end of a law that makes lambdas: the tables of code objects stand in the memory -/
namespace L2.Lh
open PySem PySem.Spec PyProof.Rows LamX
/-- code object, table, the lambdas' name -/
abbrev Tb := Addr × Addr × Str
def spLawT (n : Nat) (T : List Tb) : DSp := sp1 fun d m q qe => ∃ ns : List Int, d = .rol (ns.map D.int) ∧ ns.length ≤ n ∧ (∀ t ∈ T, m t.2.1 = some (.tbl t.2.2)) ∧ ∀ m, q (.bl true) m
def tabM (T : List Tb) : Mem := fun b => (T.find? fun t => t.2.1 == b).map fun t => .tbl t.2.2
theorem tabM_at {T : List Tb} (nd : (T.map (·.2.1)).Nodup) : ∀ t ∈ T, tabM T t.2.1 = some (.tbl t.2.2) := by
  induction T with
  | nil => intro t h; cases h
  | cons u T ih =>
    intro t h
    rw [List.map_cons, List.nodup_cons] at nd
    unfold tabM
    rw [List.find?_cons]
    by_cases e : u.2.1 = t.2.1
    · rw [show (u.2.1 == t.2.1) = true by simp [e]]
      rcases List.mem_cons.mp h with rfl | h
      · rfl
      · exact absurd (List.mem_map.mpr ⟨t, h, e.symm⟩) nd.1
    · rw [show (u.2.1 == t.2.1) = false by simp [e]]
      rcases List.mem_cons.mp h with rfl | h
      · exact absurd rfl e
      · exact ih nd.2 t h
theorem tabM_of {T : List Tb} {b : Addr} {o : MO} (h : tabM T b = some o) : ∃ t ∈ T, t.2.1 = b ∧ o = .tbl t.2.2 := by
  unfold tabM at h
  rw [Option.map_eq_some_iff] at h
  obtain ⟨t, h1, h2⟩ := h
  exact ⟨t, List.mem_of_find?_eq_some h1, by simpa using List.find?_some h1, h2.symm⟩
def emptyTab : Obj := { cls := .none, data := .fields #[] }
theorem lawGT {P : Program} {w : World} {K : PySem.W.Frag} {mg mb : Str → Option Value} {k n : Nat} {fa a : Addr} {fd : FuncData} {x : Str} {T : List Tb} {s₁ : Shared} {vs : List Value} {ns : List Int}
    (KX : K.In s₁.heap) (gN : s₁.heap.Ns mainGlobals mg) (bN : s₁.heap.Ns builtinsNs mb) (bB : ∀ x : Str, x ≠ "__name__" → mb x = bootBuiltins x) (lim : s₁.heap.NoLimit) (gens : s₁.gens = #[])
    (nd : (T.map (·.2.1)).Nodup) (empty : ∀ t ∈ T, s₁.heap.get? t.2.1 = some emptyTab) (notK : ∀ t ∈ T, K.lookup t.2.1 = none) (codes : ∀ t ∈ T, PySem.W.CodeHd s₁.heap t.1 t.2.1)
    (bmod : ∃ (bm : Addr) (ob : Obj), mg "__builtins__" = some (.ref bm) ∧ bm ≠ builtinsNs ∧ s₁.heap.get? bm = some ob ∧ ob.cls = .type "module" ∧ ob.dict = some builtinsNs ∧ ob.data = .plain)
    (scr : s₁.heap.get? a = some { cls := .type "list", data := .seq vs.toArray }) (hI : IntsAre vs ns) (hn : ns.length ≤ n) (hl : n ≤ sizeLine) (hr : Room k callerA)
    (F : ∀ base : Heap, K.In base → base.Ns mainGlobals mg → (∀ t ∈ T, TabB base mg t.1 t.2.1) → FnDG P w K mg base k fa fd [x] (spLawT n T)) (binds : ∀ (s : Shared) (u : Value), BindsTo s fd ⟨[u], []⟩ [(x, u)]) :
    codeAny (model P w) callerA (.call (.ref fa) ⟨[.ref a], []⟩) (fun r s' => r = .ok (.ret (.bool true)) ∧ OldK s₁.heap s'.heap ∧ s'.os = s₁.os ∧ AllBare s'.gens) s₁ := by
  obtain ⟨ob, hob⟩ : ∃ ob : Obj, ob = { cls := .type "list", data := .seq vs.toArray } := ⟨_, rfl⟩
  have aT : ∀ t ∈ T, t.2.1 ≠ a := fun t ht z => by
    have e := empty t ht
    rw [z, scr] at e
    have e2 : Data.seq vs.toArray _ = Data.fields #[] := congrArg Obj.data (Option.some.inj e)
    cases e2
  -- the abstract heap: the script, if it isn't of the kept part, and the tables
  obtain ⟨S, sK, sS, sH⟩ : ∃ S : Option HO, (∀ u, S = some u → K.lookup a = none) ∧ (∀ H : Hp, H a = S → Rep K H (.rol (ns.map D.int)) (.ref a)) ∧ (∀ u, S = some u → u = .frz ob (.lst (ns.map V.int))) := by
    by_cases hk : K.lookup a = none
    · exact ⟨some (.frz ob (.lst (ns.map V.int))), fun _ _ => hk, fun H e => .rol (.inl ⟨ob, e⟩) (Reps.ints ns), fun _ e => (Option.some.inj e).symm⟩
    · obtain ⟨o, ho⟩ := Option.ne_none_iff_exists'.mp hk
      have eo : o = { cls := .type "list", data := .seq vs.toArray } := Option.some.inj ((KX a o ho).symm.trans scr)
      subst eo
      exact ⟨none, (fun _ e => nomatch e), fun H _ => .rol (.inr ⟨_, vs.toArray, _, ho, rfl, rfl, rfl, by rw [List.size_toArray, hI.length]; omega, by simpa using vals_ints hI⟩) (Reps.ints ns), (fun _ e => nomatch e)⟩
  obtain ⟨H, Ha, Ht, Hn⟩ : ∃ H : Hp, H a = S ∧ (∀ t ∈ T, H t.2.1 = some (.tbl #[])) ∧ (∀ b u, H b = some u → (b = a ∧ S = some u) ∨ ((∃ t ∈ T, t.2.1 = b) ∧ u = .tbl #[])) := by
    refine ⟨fun b => if b = a then S else if b ∈ T.map (·.2.1) then some (.tbl #[]) else none, if_pos rfl, fun t ht => ?_, fun b u h => ?_⟩
    · show (if t.2.1 = a then _ else _) = _
      rw [if_neg (aT t ht), if_pos (List.mem_map.mpr ⟨t, ht, rfl⟩)]
    · have h : (if b = a then S else if b ∈ T.map (·.2.1) then some (HO.tbl #[]) else none) = some u := h
      by_cases e : b = a
      · rw [if_pos e] at h; exact .inl ⟨e, h⟩
      · rw [if_neg e] at h
        by_cases e2 : b ∈ T.map (·.2.1)
        · rw [if_pos e2] at h
          obtain ⟨t, ht, et⟩ := List.mem_map.mp e2
          exact .inr ⟨⟨t, ht, et⟩, (Option.some.inj h).symm⟩
        · rw [if_neg e2] at h; cases h
  have hok : HOk P w H s₁.heap := fun b u h => by
    rcases Hn b u h with ⟨e1, e2⟩ | ⟨⟨t, ht, e1⟩, e2⟩
    · have := sH u e2
      subst this e1
      rw [hob]
      exact ⟨scr, by rw [List.length_map]; omega, vs, _, vals_ints hI, scr⟩
    · subst e1 e2
      exact empty t ht
  have free : ∀ {b : Addr} {o : Obj}, s₁.heap.get? b = some o → (K.lookup b = some o ∨ ((∀ xs c, o.data ≠ .seq xs c) ∧ o.data ≠ .fields #[])) → H b = none := fun {b o} e d => by
    cases q : H b with
    | none => rfl
    | some u =>
      rcases Hn b u q with ⟨e1, e2⟩ | ⟨⟨t, ht, e1⟩, e2⟩
      · subst e1
        rcases d with d | d
        · rw [sK u e2] at d; cases d
        · rw [scr] at e; cases e; exact (d.1 _ _ rfl).elim
      · subst e1
        rcases d with d | d
        · rw [notK t ht] at d; cases d
        · rw [empty t ht] at e; cases e; exact (d.2 rfl).elim
  have base : ∀ {b : Addr} {o : Obj}, s₁.heap.get? b = some o → (K.lookup b = some o ∨ ((∀ xs c, o.data ≠ .seq xs c) ∧ o.data ≠ .fields #[])) → (hidT s₁.heap H).get? b = some o := fun e d => hidT_get e (free e d)
  have ns' : ∀ {b : Addr} {m : Str → Option Value}, s₁.heap.Ns b m → (hidT s₁.heap H).Ns b m := fun {b m} ⟨o, es, ep, e, d, r⟩ =>
    ⟨o, es, ep, base e (.inr ⟨fun xs c z => (by rw [d] at z; cases z), fun z => (by rw [d] at z; cases z)⟩), d, r⟩
  have kIn : K.In (hidT s₁.heap H) := fun b o e => base (KX b o e) (.inl e)
  have tabs : ∀ t ∈ T, TabB (hidT s₁.heap H) mg t.1 t.2.1 := fun t ht => by
    constructor
    · obtain ⟨o, us, file, tf, flags, tg, inF, text, tt, e1, r⟩ := codes t ht
      have r2 := r.2.1
      have r3 := r.2.2.1
      refine ⟨o, us, file, tf, flags, tg, inF, text, tt, base e1 (.inr ⟨fun xs c z => ?_, fun z => ?_⟩), r⟩
      · rw [r2] at z; cases z
      · rw [r2] at z; cases z; simp at r3
    · obtain ⟨bm, o, b1, b2, b3, b4, b5, b6⟩ := bmod
      refine ⟨bm, o, b1, b2, fun z => ?_, fun z => ?_, base b3 (.inr ⟨fun xs c z => ?_, fun z => ?_⟩), b4, b5, b6⟩
      · obtain ⟨o2, es, ep, e, hd, _⟩ := gN
        rw [z, e] at b3; cases b3; rw [hd] at b6; cases b6
      · rw [z, empty t ht] at b3; cases b3; cases b6
      · rw [b6] at z; cases z
      · rw [b6] at z; cases z
    · intro z
      obtain ⟨o, es, ep, e, hd, _⟩ := gN
      rw [z, empty t ht] at e; cases e; cases hd
  obtain ⟨mc, l1, l2⟩ := lim
  have e0 : Env0 P w K mg (hidT s₁.heap H) callerA [] s₁ H := { frames := rfl, mod := ⟨kIn, ns' gN, ⟨mb, ns' bN, bB⟩, ⟨mc, ns' l1, l2⟩⟩, bs := fun b o e => of_hidT e, bsz := Nat.le_of_eq (hidT_size _ _), funs := trivial, frf := (fun _ z => nomatch z), hok := hok, bare := .of_eq gens }
  have sim : Sim K H (tabM T) := fun b o h => by
    obtain ⟨t, ht, rfl, rfl⟩ := tabM_of h
    exact TabS.nil (Ht t ht)
  have rep : Rep K H (.rol (ns.map D.int)) (.ref a) := sS H Ha
  refine codeAny_mono ((F _ kIn (ns' gN) tabs).run callerA [] s₁ H ⟨[.ref a], []⟩ [.ref a] [.ref a] (fun v _ => v = .bl true) (fun _ _ _ => False) rfl hr e0 (binds s₁ (.ref a)) (.cons rfl .nil)
    ⟨[.rol (ns.map D.int)], tabM T, fun d _ => d = .bl true, fun _ _ => False, .cons rep .nil, sim, ⟨ns, rfl, hn, tabM_at nd, fun _ => rfl⟩, fun d m v H' hd r _ _ => by subst hd; cases r; rfl, fun _ _ _ z _ _ => z.elim⟩) fun r s' h => ?_
  match r, h with
  | .error e, h => exact (law_cx h).elim
  | .ok .next, h => exact False.elim h
  | .ok .brk, h => exact False.elim h
  | .ok .cont, h => exact False.elim h
  | .ok (.ret u), ⟨v, H', os, bare, un, hok', r', q⟩ =>
    have q' : v = .bl true := q
    subst q'
    have eu : u = Value.bool true := r'
    subst eu
    have kept : ∀ b o, (∀ t ∈ T, t.2.1 ≠ b) → s₁.heap.get? b = some o → s'.heap.get? b = some o := fun b o nb e => by
      cases z : H b with
      | none => exact un.keep b o e z (fun y => nomatch y) (fun y => nomatch y)
      | some u =>
        rcases Hn b u z with ⟨e1, e2⟩ | ⟨⟨t, ht, e1⟩, _⟩
        · have hu := sH u e2
          subst hu
          have f1 := (hok b _ z).1
          have f2 := (hok' b _ (un.frzs b _ _ z)).1
          rw [e] at f1; cases f1
          exact f2
        · exact (nb t ht e1).elim
    have grown : ∀ t ∈ T, ∃ more : Array Value, s'.heap.get? t.2.1 = some { cls := .none, data := .fields more } := fun t ht => by
      obtain ⟨more, z⟩ := un.tbls t.2.1 #[] (Ht t ht)
      exact ⟨_, hok' t.2.1 _ z⟩
    refine ⟨rfl, ⟨fun b o e => ?_, fun b o e => ?_⟩, os, bare⟩
    · by_cases hb : ∃ t ∈ T, t.2.1 = b
      · obtain ⟨t, ht, rfl⟩ := hb
        obtain ⟨more, hm⟩ := grown t ht
        have eo := (empty t ht).symm.trans e
        cases eo
        exact .inr (.inl ⟨((codes t ht).tab (empty t ht)).isCodeTable, rfl, #[], more, rfl, by rw [Array.empty_append]; exact hm⟩)
      · exact .inl (kept b o (fun t ht z => hb ⟨t, ht, z⟩) e)
    · by_cases hb : ∃ t ∈ T, t.2.1 = b
      · obtain ⟨t, ht, rfl⟩ := hb
        obtain ⟨more, hm⟩ := grown t ht
        exact ⟨_, hm⟩
      · exact ⟨o, kept b o (fun t ht z => hb ⟨t, ht, z⟩) e⟩
/-- the table of a def's code object is empty at the head -/
def OwnT (K : PySem.W.Frag) (mg : Str → Option Value) (h : Heap) (nm : Str) : Prop := ∀ (f c P : Addr) (o : Obj) (fd : FuncData) (e : Value) (dd : Option Addr) (vs : Array Value) (sl : Array (Option Value)),
  mg nm = some (.ref f) → K.lookup f = some o → o.data = .func fd → fd.code = .ref c → K.lookup c = some ⟨e, dd, .fields vs, sl⟩ → vs[11]? = some (.ref P) → h.get? P = some emptyTab ∧ PySem.W.CodeHd h c P
theorem walkGT {l : PySem.W.OpenLaw} {n k : Nat} {q : Program} {loose : List Str} {XP : (Str → Option Value) → Heap → Prop} {YP : World → Heap → Prop} {d : DefRec} {K : Params → PySem.W.Frag} {x : Str} (names : List Str)
    (hn : l.most = some n) (hn2 : n ≤ sizeLine) (hdf : d.params.defaults = []) (hr : Room k callerA) (hrec : (names.all fun nm => (recsOf q).any fun e => e.name == nm) = true) (hY : ∀ (w : World) (h : Heap), YP w h → (K w.params).In h)
    (F : ∀ (w : World) (mg : Str → Option Value) (fa : Addr) (h : Heap), (K w.params).In h → h.Ns mainGlobals mg → mg d.name = some (.ref fa) → (∀ nm ∈ names, OwnT (K w.params) mg h nm) →
      ∃ (fd : FuncData) (T : List Tb), (T.map (·.2.1)).Nodup ∧ (∀ t ∈ T, h.get? t.2.1 = some emptyTab) ∧ (∀ t ∈ T, (K w.params).lookup t.2.1 = none) ∧ (∀ t ∈ T, PySem.W.CodeHd h t.1 t.2.1) ∧ (∀ (s : Shared) (u : Value), BindsTo s fd ⟨[u], []⟩ [(x, u)]) ∧
        ∀ base : Heap, (K w.params).In base → base.Ns mainGlobals mg → (∀ t ∈ T, TabB base mg t.1 t.2.1) → FnDG l.prog w (K w.params) mg base k fa fd [x] (spLawT n T)) :
    PySem.W.WalkO q loose XP YP l.row.toRowW d [] (fun f vs => PySem.call f vs) :=
  Att.attach_call hn hdf fun w s₀ s₁ mg mb fa o pm cd doc a vs ns G Y ho hd hcd hmg hobj hI hlen hg => by
    have KX := hY w _ Y
    have own : ∀ nm ∈ names, OwnT (K w.params) mg s₁.heap nm := fun nm hnm f c P o1 fd1 e dd vs1 sl k0 k1 k2 k3 k4 k5 => by
      obtain ⟨dL, hm, hn1⟩ := List.any_eq_true.mp (List.all_eq_true.mp hrec nm hnm)
      obtain ⟨a', o', fd', c', P', h1, h2, h3, h4, h5, h6⟩ := G.T.tab dL hm
      rw [beq_iff_eq.mp hn1, k0] at h1
      cases h1
      have g1 := (KX _ _ k1).symm.trans h2
      cases g1
      cases k2.symm.trans h3
      cases k3.symm.trans h4
      obtain ⟨⟨oc, vc, e1, e2, e3, e4⟩, hP⟩ := id h6
      have g2 := (KX _ _ k4).symm.trans e1
      cases g2
      cases e3
      cases k5.symm.trans e4
      exact ⟨hP, PySem.W.CodeHd.of h5 h6⟩
    obtain ⟨fd, T, nd, hT, nT, C, hb, hF⟩ := F w mg fa _ KX G.T.g hmg own
    exact lawGT KX G.T.g G.T.b G.T.builtins G.T.nolimit hg nd hT nT C G.T.bmain hobj hI hlen hn2 hr hF hb
/-- a def that needs no word about repr -/
theorem FnDG.of {P : Program} {w : World} {K : PySem.W.Frag} {mg : Str → Option Value} {base : Heap} {k : Nat} {f : Addr} {fd : FuncData} {ps : List Str} {sp : DSp} (F : FnD P w K mg base k f fd ps sp) : FnDG P w K mg base k f fd ps sp :=
  ⟨F.len, fun A outer s H args us vs Q E _ hr e0 hb r h => F.run A outer s H args us vs Q E hr e0 hb r h⟩
end L2.Lh

/-! defs that make lambdas -/
namespace L2.Lh
open PySem PySem.Spec PyProof.Rows LamX
section
variable {P : Program} {w : World} {K : PySem.W.Frag} {mg : Str → Option Value} {base : Heap}
theorem fnG_bodyC {x qual : Str} {st : Stmt} {f : Addr} {fd : FuncData} {N ps : List Str} {k : Nat} {sp : Sp} (F : Fun K x qual st f fd) (S : FnScope N ps (defScope st)) (len : ∀ vs H Q E, sp vs H Q E → vs.length = ps.length)
    (body : ∀ (cdv : Value) (A : Around) (outer : List Env) (s : Shared) (H : Hp) (vs : List V) (Q : VK) (E : XK), fd.code = cdv → A.guards = some [] → Room k (A.deeper (envOfC qual (defScope st) s.heap.objs.size f cdv)) → sp vs H Q E →
      ∃ t, PSs (cxOf (L2.CX P w) P w K mg base N qual (defScope st) f cdv A outer s H E) (defBody st) t ∧ t { nx := fun _ H' => Q .non H', rt := Q } (start N vs) H) : FnG P w K mg base (k + 1) f fd ps sp := by
  obtain ⟨oc, od, kV, doc, pm, an, cdv, ct, osl, rfl, lk, hcd⟩ := F.ex
  have F' : Fun K x qual st f (PySem.W.fnOf x qual (defArgs st) (defBody st) (defScope st) .none kV doc pm an cdv ct) := F
  refine ⟨len, fun A outer s H args us vs Q E hgd hr e0 hb r hsp => ?_⟩
  have KX : K.In s.heap := e0.mod.kin.keeps fun b o e => (e0.bs b o e).1
  have lim : s.heap.NoLimit := e0.mod.nolimit.keeps fun b o e => (e0.bs b o e).1
  refine codeAny_call_function hr.depth (KX _ _ lk) rfl S.co S.gen rfl (PySem.W.codeRec_of KX hcd) (hb _ _ _ _ ?_)
  have kinds : ∀ y ∈ ps.zip us, (defScope st).names.lookup y.1 = some .local ∨ ((defScope st).names.lookup y.1 = some .cell ∧ ((cellsFrom (s.heap.objs.size + 1) (defScope st).names []).lookup y.1).isSome = true) := by
    intro y hy
    cases S.par y.1 (List.of_mem_zip hy).1 with
    | inl q => exact .inl q
    | inr q => exact .inr ⟨q, PySem.W.cellsFrom_some _ _ _ (.inl q)⟩
  refine wpAny_newFunctionEnv_cells S.kind kinds fun env he s1 inc => ?_
  cases he
  obtain ⟨t, ht, hq⟩ := body cdv A outer s H vs Q E rfl hgd (hr.deeper _) hsp
  have I := inv_start (CX := L2.CX P w) (E := E) (N := N) S hr.hd e0 (len _ _ _ _ hsp) r inc
  refine ⟨lim.keeps inc.toInCall.keep, codeAny_func (wpAny_mono (ht.run [] s1 (start N vs) H _ I hq) (fun fl s' hs => ?_) fun _ _ z => z)⟩
  match fl, hs with
  | .ret u, ⟨v, σ', H', J, rv, q⟩ => exact ⟨v, H', J.os, J.bare, J.base, J.hok, rv, q⟩
  | .next, ⟨σ', H', J, q⟩ => exact ⟨.non, H', J.os, J.bare, J.base, J.hok, rfl, q⟩
  | .brk, ⟨_, _, _, q⟩ => exact q.elim
  | .cont, ⟨_, _, _, q⟩ => exact q.elim
theorem fnDG_ofC {x qual : Str} {st : Stmt} {f : Addr} {fd : FuncData} {N ps : List Str} {k : Nat} {sp : DSp} (F : Fun K x qual st f fd) (S : FnScope N ps (defScope st)) (len : ∀ {ds m q qe}, sp ds m q qe → ds.length = ps.length)
    (body : ∀ (cdv : Value) (A : Around) (outer : List Env) (s : Shared) (H : Hp) (E : XK) (B : Bs) (qe : Value → Mem → Prop), fd.code = cdv →
      Room k (A.deeper (envOfC qual (defScope st) s.heap.objs.size f cdv)) → (cxOf (L2.CX P w) P w K mg base N qual (defScope st) f cdv A outer s H E).A.guards = some [] →
      Takes (cxOf (L2.CX P w) P w K mg base N qual (defScope st) f cdv A outer s H E) (upW K B fun cls _ m => qe cls m) →
      PassesOwn (model P w) (cxOf (L2.CX P w) P w K mg base N qual (defScope st) f cdv A outer s H E).A (cxOf (L2.CX P w) P w K mg base N qual (defScope st) f cdv A outer s H E).env (cxOf (L2.CX P w) P w K mg base N qual (defScope st) f cdv A outer s H E).xe →
      ∃ t, DSs B (cxOf (L2.CX P w) P w K mg base N qual (defScope st) f cdv A outer s H E) (defBody st) t ∧ ∀ ds m q, sp ds m q qe → t (defEnds q) (startD N ds) m) : FnDG P w K mg base (k + 1) f fd ps sp := by
  refine fnG_bodyC F S (fun vs H Q E h => ?_) (fun cdv A outer s H vs Q E hc hgd hr h => ?_)
  · obtain ⟨ds, m, q, qe, r, _, h, _⟩ := h
    rw [← r.length]
    exact len h
  · obtain ⟨ds, m, q, qe, r, sim, h, post, hE⟩ := h
    have tk : Takes (cxOf (L2.CX P w) P w K mg base N qual (defScope st) f cdv A outer s H E) (upW K ⟨H, m⟩ fun cls _ m => qe cls m) :=
      (takes_of (E := E) rfl rfl rfl rfl).imp fun cls d σ H' ⟨c, ⟨e1, e2⟩, ρ, m', p, q'⟩ => by
        subst e1 e2
        exact hE c m' H' q' p.sim p.st
    obtain ⟨t, ht, hq⟩ := body cdv A outer s H E ⟨H, m⟩ qe hc hr hgd tk (passes_of (K := fun e s'' => L2.CX P w outer H s E e s'') rfl)
    refine ⟨_, ht, startD N ds, m, defEnds q, ⟨start_ok r, sim, Step.refl _ _⟩, hq ds m q h, ?_⟩
    exact ⟨fun ρ' m' σ' H' ⟨m2, hle, hq⟩ env s2 st => post .non m2 .non H' hq .non (s2.forget hle) (st.forget hle), fun d m' v H' ⟨m2, hle, hq⟩ rd s2 st => post d m2 v H' hq rd (s2.forget hle) (st.forget hle),
      fun _ _ _ _ z => False.elim z, fun _ _ _ _ z => False.elim z⟩
end
end L2.Lh
namespace L2.Lh
open PySem PySem.Spec PyProof.Rows
/-! ### sep.join(texts) -/
end L2.Lh
namespace L2.Lh
open PySem
/-- the name of a def's lambdas -/
def lamQ (q : Str) : Str := q ++ ".<locals>." ++ "<lambda>"
end L2.Lh
namespace L2.Lh
theorem all_cons {α : Type} {p : α → Prop} {a : α} {l : List α} (h : p a) (r : ∀ x ∈ l, p x) : ∀ x ∈ a :: l, p x := fun x hx => by
  cases hx with
  | head => exact h
  | tail _ hx => exact r x hx
end L2.Lh

/-! t * k for every small k -/
namespace L2
open PySem PySem.Spec PyProof.Rows
open AutoSeq1 (wpAny_loadPart')
end L2
namespace L2.Lh
open PySem PySem.Spec PyProof.Rows
section
variable {X : Cx}
end
end L2.Lh

/-! a tuple display whose very object is known -/
namespace L2.Lh
open PySem PySem.Spec PyProof.Rows
def dTupF (t : DTA) : DTE := fun ρ m q => t ρ m fun ds m1 => ds.length ≤ sizeLine ∧ q (.ftup ds) m1
theorem de_tupF {X : Cx} {B : Bs} {es : List Expr} {t : DTA} {pos : Pos} {x1} (h : DA B X es t) : DE B X (.Tuple es x1 pos) (dTupF t) := by
  refine ⟨fun pins s σ H Q I ⟨ρ, m, q, p, hq, post⟩ => ?_⟩
  refine wpAny_Tuple_spliced (thn (h.run pos pins s σ H (fun xs G => xs.length ≤ sizeLine ∧ ∃ ds m1, Reps X.K G ds xs ∧ Sim X.K G m1 ∧ Step H m G m1 ∧ q (.ftup ds) m1) I ⟨ρ, m, _, p, hq, fun ds m1 vs H1 ⟨z, h1⟩ r1 s1 t1 => ⟨by rw [← r1.length]; exact z, ds, m1, r1, s1, t1, h1⟩⟩) fun us s1 got => ?_)
  obtain ⟨xs, G, I1, rel, z, ds, m1, r1, sim1, st1, h1⟩ := got
  refine ⟨by rw [← rel.length]; exact z, ?_⟩
  have nw : G s1.heap.objs.size = none := I1.hok.fresh (Nat.le_refl _)
  have I2 : Inv X pins σ (upd G s1.heap.objs.size (.frz { cls := .type "tuple", data := .seq us.toArray } (.tup xs))) { s1 with heap := s1.heap.push { cls := .type "tuple", data := .seq us.toArray } } :=
    I1.laid (t' := s1.toks) (fun b o e => Heap.get?_push_of_some _ e) (Nat.le_refl _) (show ObjOk X.prog X.w _ _ _ (.frz _ (.tup xs)) from ⟨Heap.get?_push_size _ rfl, z, us, rel, IsTup.new _ _⟩)
  exact ⟨.ref _, _, I2, rfl, post (.ftup ds) m1 _ _ h1 (.ftup upd_same rfl (r1.mono (upd_new nw))) (sim1.alloc nw) (st1.trans (Step.alloc nw))⟩
end L2.Lh

/-! an error of an own class, made with no argument -/
namespace L2.Lh
open PySem PySem.Spec PyProof.Rows
end L2.Lh

/-! for k in d, d a dict whose keys are tuples: the memory keeps the dict's rows while they are walked (dR) -/
namespace L2.Lh
open PySem PySem.Spec PyProof.Rows
theorem getO_R {m : Mem} {a : Addr} {kvs : List (NestedKey × D)} {es : Array DictEntry} {ep : Nat} {ds : List D} {y : D} {k : NestedKey} (h : m a = some (.dR kvs es ep ds)) (e : keyT y = some k) : getO m (.ref a) y = some (valG kvs k) := by
  unfold getO; dsimp only; rw [h]; dsimp only; rw [e]; rfl
/-- the walk over the rows of a dict that stands still -/
def ItRaw (d : Addr) (es : Array DictEntry) (ep : Nat) : It :=
  ⟨fun i H => H d = some (.ext (rawIs d es ep)) ∧ ∃ en b, es[i]? = some en ∧ en.key = Value.ref b, fun i H x H' => H' = H ∧ ∃ en b, es[i]? = some en ∧ en.key = Value.ref b ∧ x = .ref b, fun i H => H d = some (.ext (rawIs d es ep)) ∧ es.size ≤ i⟩
theorem turn_raw {P : Program} {w : World} {K : PySem.W.Frag} {tg : Expr} {d : Addr} {es : Array DictEntry} {ep : Nat} (it : Addr) : Turn P w K tg (ItRaw d es ep) [it] it (fun i h => h.IsKeyIter it d i es.size ep) where
  mem := List.mem_singleton.mpr rfl
  obj := fun i h st b hb => by
    rw [List.mem_singleton.mp hb]
    obtain ⟨o, h1, h2, h3⟩ := st
    exact ⟨o, h1, fun v z => by rw [h3] at z; cases z⟩
  keep := fun i h h' st k => st.at fun o e => k it (List.mem_singleton.mpr rfl) o e
  item := by
    intro X eP ew eK hc i pins s σ H E inv fp st ⟨hd, en, b, he, hb⟩
    subst eP ew eK
    obtain ⟨p0, p1, _, p3, p4, p5⟩ := fp it (List.mem_singleton.mpr rfl)
    obtain ⟨⟨o, o1, _, o3⟩, _, _⟩ := inv.hok d _ hd
    refine next_key_item st o1 o3 rfl he fun h' st' same => ?_
    obtain ⟨oi, i1, i2, i3⟩ := id st'
    exact ⟨_, rfl, go_of (s := { s with heap := h' }) i1 i2 i3 (by decide) ⟨.ref b, H, inv.turned (t' := s.toks) (fun c oc hc e => (same.2 c hc).trans e) p0 p1 p3 p4 p5, hb, ⟨rfl, en, b, he, hb, rfl⟩, st', fun c hc => (fp c hc).1⟩⟩
  done := by
    intro X eP ew eK hc i pins s σ H E inv fp st ⟨hd, hi⟩
    subst eP ew eK
    obtain ⟨p0, p1, _, p3, p4, p5⟩ := fp it (List.mem_singleton.mpr rfl)
    obtain ⟨⟨o, o1, _, o3⟩, _, _⟩ := inv.hok d _ hd
    exact next_key_end (inv.ok.hd hc) st o1 o3 rfl hi fun h' same => ⟨rfl, inv.turned (t' := s.toks) (fun c oc hc e => same c oc hc e) p0 p1 p3 p4 p5⟩
  self := fun A i s Q E st h => wpAny_pyIter_keyiter st h
theorem repN_forms {K : PySem.W.Frag} {H : Hp} : ∀ {kvs : List (NestedKey × D)} {xs : List (NestedKey × Addr × Value)}, RepN K H kvs xs → ∃ ds, Reps K H ds (xs.map fun x => V.ref x.2.1) ∧ ds.map keyN = kvs.map fun p => some p.1
  | _, _, .nil => ⟨[], .nil, rfl⟩
  | _, _, .cons q r => by
    obtain ⟨ds, h1, h2⟩ := repN_forms r
    obtain ⟨e, ⟨d, hd, hk, _⟩, _⟩ := q
    exact ⟨d :: ds, .cons hd h1, by rw [List.map_cons, List.map_cons, h2, hk, e]⟩
theorem ItOk.raw {K : PySem.W.Frag} {a : Addr} {kvs : List (NestedKey × D)} {es : Array DictEntry} {ep : Nat} {ds : List D} {H0 : Hp} {m0 : Mem} (P : Program) (w : World) : ItOk K ⟨ds, fun m' => m' a = some (.dR kvs es ep ds)⟩ (ItRaw a es ep) H0 m0 where
  go := fun i d m H e s _ c => by
    obtain ⟨h1, xs, rw', rs⟩ := s a _ c
    obtain ⟨v, g1, g2⟩ := rs.get e
    rw [List.getElem?_map] at g1
    cases hx : xs[i]? with
    | none => rw [hx] at g1; cases g1
    | some x =>
      rw [hx] at g1
      cases g1
      have he : es[i]? = some (entryOfKey (nestedKind P w) x) := by
        rw [← Array.getElem?_toList, rw'.ent P w, List.getElem?_map, hx]; rfl
      refine ⟨⟨h1, _, x.2.1, he, rfl⟩, fun y H' ⟨e1, en, b, e2, e3, e4⟩ => ?_⟩
      subst e1
      rw [he] at e2
      cases e2
      cases (show Value.ref x.2.1 = Value.ref b from e3)
      subst e4
      exact ⟨g2, s, Step.refl _ _⟩
  stop := fun m H s _ c => by
    obtain ⟨h1, xs, rw', rs⟩ := s a _ c
    refine ⟨h1, Nat.le_of_eq ?_⟩
    have e1 := congrArg List.length (rw'.ent P w)
    have e2 := rs.length
    rw [List.length_map] at e1 e2
    rw [← Array.length_toList, e1, e2]
theorem sim_dR {K : PySem.W.Frag} {H : Hp} {m : Mem} {a : Addr} {o : MO} (s : Sim K H m) (h : RepO K H a o) : Sim K H (m.set a o) := fun b u e => by
  by_cases z : b = a
  · subst z; rw [Mem.set_same] at e; cases e; exact h
  · rw [Mem.set_ne z] at e; exact s b u e
theorem step_dR {H : Hp} {m : Mem} {a : Addr} {o u : MO} (h : m a = some u) : Step H m H (m.set a o) :=
  ⟨Ext.refl H, fun _ h => h, fun _ _ _ h => h, fun b ob n _ => by
    by_cases z : b = a
    · subst z; rw [h] at n; cases n
    · rw [Mem.set_ne z]; exact n⟩
def iKeysT (t : DTE) : DTI := fun ρ m q => t ρ m fun d m1 => ∃ a kvs, d = .ref a ∧ m1 a = some (.dT kvs) ∧ ∀ es ep, q ⟨kvs.map Prod.fst, fun m' => m' a = some (.dR (kvT kvs) es ep (kvs.map Prod.fst))⟩ (m1.set a (.dR (kvT kvs) es ep (kvs.map Prod.fst)))
theorem di_keysT {X : Cx} {B : Bs} {tg e : Expr} {te : DTE} (h : DE B X e te) : DI B X tg e (iKeysT te) := by
  refine ⟨fun pins s σ H R inv ⟨ρ, m, q, p, hq, post⟩ => ?_⟩
  refine thn (h.run pins s σ H (fun v H1 => ∃ a kvs m1, v = .ref a ∧ Sim X.K H1 m1 ∧ Step H m H1 m1 ∧ m1 a = some (.dT kvs) ∧ ∀ es ep, q ⟨kvs.map Prod.fst, fun m' => m' a = some (.dR (kvT kvs) es ep (kvs.map Prod.fst))⟩ (m1.set a (.dR (kvT kvs) es ep (kvs.map Prod.fst)))) inv
    ⟨ρ, m, _, p, hq, fun d m1 v H1 ⟨a, kvs, e1, e2, h1⟩ r1 s1 t1 => by subst e1; cases r1; exact ⟨a, kvs, m1, rfl, s1, t1, e2, h1⟩⟩) fun u s1 ⟨v, H1, I1, rv, a, kvs, m1, ev, sim, st, ea, hk⟩ => ?_
  subst ev
  obtain rfl : u = Value.ref a := rv
  obtain ⟨es, ep, xs, g1, g2, f1⟩ := sim a _ ea
  obtain ⟨⟨o, o1, o2, o3⟩, _, _⟩ := I1.hok a _ g1
  exact iter_keys g2.sys o1 o2 o3 (pi_one (tk := s1.toks) I1 _ (turn_raw _) ⟨_, Heap.get?_push_size _ rfl, rfl, rfl⟩
    (post _ _ _ _ (hk es ep) (ItOk.raw X.prog X.w) (sim_dR sim ⟨g1, xs, g2, f1⟩) (st.trans (step_dR ea))))
end L2.Lh

namespace L2.Lh
open PySem PySem.Spec PyProof.Rows LamX
section
variable {X : Cx}
end
end L2.Lh

/-! zip of two tuples, of two lists -/
namespace L2.Lh
open PySem PySem.Spec PyProof.Rows
/-- the tuples at a and b, their items in new pairs -/
def ItZt (K : PySem.W.Frag) (a b : Addr) : It where
  go := fun i H => ∃ (xs ys : List V) (x y : V), SqT K H a xs ∧ SqT K H b ys ∧ xs[i]? = some x ∧ ys[i]? = some y
  yld := fun i H v H' => ∃ T x y, v = .ref T ∧ H T = none ∧ H' = upd H T (.tup [x, y]) ∧ (∀ xs, SqT K H a xs → xs[i]? = some x) ∧ ∀ ys, SqT K H b ys → ys[i]? = some y
  stop := fun i H => ∃ xs ys : List V, SqT K H a xs ∧ SqT K H b ys ∧ i ≤ xs.length ∧ i ≤ ys.length ∧ (i = xs.length ∨ i = ys.length)
theorem turnZt {P : Program} {w : World} {K : PySem.W.Frag} {elts : List Expr} {kk : Nat} {tpos : Pos} {a b z TI TO i1 i2 : Addr} (S : ZipSep2 z TI TO i1 i2 [i1, a] [i2, b]) (n1 : a ≠ i1) (n2 : b ≠ i2) :
    Turn P w K (.Tuple elts kk tpos) (ItZt K a b) [z, TI, TO, i1, i2] z (fun i h => IsZip h z TI TO .none ∧ IsTupOf2 h TI (.ref i1) (.ref i2) ∧ (∃ x y, IsTupOf2 h TO x y) ∧ h.IsTupleIter i1 a i ∧ h.IsTupleIter i2 b i) where
  mem := by simp
  obj := fun i h st c hc => by
    obtain ⟨hz, hTI, ⟨x, y, hTO⟩, ⟨o1, e1, _, d1⟩, ⟨o2, e2, _, d2⟩⟩ := st
    rcases (show c = z ∨ c = TI ∨ c = TO ∨ c = i1 ∨ c = i2 by simpa using hc) with q | q | q | q | q
    · rw [q]; exact ⟨_, hz, fun v q => nomatch q⟩
    · rw [q]; exact ⟨_, hTI, fun v q => nomatch q⟩
    · rw [q]; exact ⟨_, hTO, fun v q => nomatch q⟩
    · rw [q]; exact ⟨o1, e1, fun v q => by rw [d1] at q; cases q⟩
    · rw [q]; exact ⟨o2, e2, fun v q => by rw [d2] at q; cases q⟩
  keep := fun i h h' st k => by
    obtain ⟨hz, hTI, ⟨x, y, hTO⟩, h1, h2⟩ := st
    exact ⟨k z (by simp) _ hz, k TI (by simp) _ hTI, ⟨x, y, k TO (by simp) _ hTO⟩, h1.at fun o q => k i1 (by simp) o q, h2.at fun o q => k i2 (by simp) o q⟩
  item := by
    intro X hP hw hK hc i pins s σ H E I hf st hg
    subst hP hw hK
    obtain ⟨hz, hTI, ⟨x0, y0, hTO⟩, h1, h2⟩ := st
    obtain ⟨xs, ys, x, y, hqx, hqy, hx, hy⟩ := hg
    obtain ⟨its, rv, p, _⟩ := I.tuple hqx
    obtain ⟨its2, rv2, p2, _⟩ := I.tuple hqy
    obtain ⟨u, hu, ru⟩ := rv.get hx
    obtain ⟨u2, hu2, ru2⟩ := rv2.get hy
    have hzl : z < s.heap.objs.size := Heap.lt_size hz
    have l1 : i < its.toArray.size := by
      have := (List.getElem?_eq_some_iff.mp hu).1
      simpa using this
    have l2 : i < its2.toArray.size := by
      have := (List.getElem?_eq_some_iff.mp hu2).1
      simpa using this
    have D1 := Draws.tuple (prog := X.prog) (w := X.w) (A := X.A.in1) (I.ok.hd hc) i1 a n1 its.toArray
    have D2 := Draws.tuple (prog := X.prog) (w := X.w) (A := X.A.in1) (I.ok.hd hc) i2 b n2 its2.toArray
    refine wpAny_pyNext_zipD2_item S D1 D2 hz hTI hTO ⟨h1, (show s.heap.IsTuple a its.toArray from p)⟩ ⟨h2, (show s.heap.IsTuple b its2.toArray from p2)⟩ l1 l2 fun v1 v2 h' tk e1 e2 z' TO' h1' h2' hT hsz hk => ?_
    have ev1 : v1 = u := by
      have : its.toArray[i]? = some u := by simpa using hu
      rw [this] at e1; cases e1; rfl
    have ev2 : v2 = u2 := by
      have : its2.toArray[i]? = some u2 := by simpa using hu2
      rw [this] at e2; cases e2; rfl
    subst ev1 ev2
    refine ⟨_, rfl, wpAny_letOwnedTupleGo_zip (s := { s with heap := h', toks := tk }) z' fun h'' z'' sb => ?_⟩
    have hT2 : h''.get? s.heap.objs.size = some { cls := .type "tuple", data := .seq #[v1, v2] } := (sb.2 _ (Nat.ne_of_gt hzl)).trans hT
    have new : ObjOk X.prog X.w (upd H s.heap.objs.size (.tup [x, y])) h'' s.heap.objs.size (.tup [x, y]) :=
      ⟨by show 2 ≤ sizeLine; decide, [v1, v2], .cons ru (.cons ru2 .nil), ⟨_, hT2, rfl, _, rfl⟩⟩
    have I1 : Inv X pins σ (upd H s.heap.objs.size (.tup [x, y])) { s with heap := h'', toks := tk } :=
      I.turnedNew (t' := tk) (ch := [z, TI, TO, i1, i2]) (fun c o hb q => (sb.2 c (fun q' => hb (by simp [q']))).trans (hk c o (fun q' => hb (by simp [q'])) (fun q' => hb (by simp [q'])) (fun q' => hb (by simp [q'])) (fun q' => hb (by simp [q'])) q)) hf (Nat.le_refl _) new
    refine ⟨.ref s.heap.objs.size, _, I1, rfl, ⟨_, x, y, rfl, I.hok.fresh (Nat.le_refl _), rfl, fun l hl => by rw [I.tuple_inj hl hqx]; exact hx, fun l hl => by rw [I.tuple_inj hl hqy]; exact hy⟩, ⟨z'', ?_, ⟨v1, v2, ?_⟩, ?_, ?_⟩, fun c hcm => ?_⟩
    · exact (sb.2 _ S.TIz).trans (hk _ _ S.TIz S.TITO S.TIi1 S.TIi2 hTI)
    · exact (sb.2 _ S.TOz).trans TO'
    · exact h1'.1.at fun o q => (sb.2 _ (Ne.symm S.zi1)).trans q
    · exact h2'.1.at fun o q => (sb.2 _ (Ne.symm S.zi2)).trans q
    · have hlt : c < s.heap.objs.size := by
        rcases (show c = z ∨ c = TI ∨ c = TO ∨ c = i1 ∨ c = i2 by simpa using hcm) with q | q | q | q | q
        · rw [q]; exact hzl
        · rw [q]; exact Heap.lt_size hTI
        · rw [q]; exact Heap.lt_size hTO
        · rw [q]; obtain ⟨_, e1, _⟩ := h1; exact Heap.lt_size e1
        · rw [q]; obtain ⟨_, e2, _⟩ := h2; exact Heap.lt_size e2
      rw [upd_ne (Nat.ne_of_lt hlt)]
      exact (hf c hcm).1
  done := by
    intro X hP hw hK hc i pins s σ H E I hf st hg
    subst hP hw hK
    obtain ⟨hz, hTI, ⟨x0, y0, hTO⟩, h1, h2⟩ := st
    obtain ⟨xs, ys, hqx, hqy, g1, g2, hend⟩ := hg
    obtain ⟨its, rv, p, _⟩ := I.tuple hqx
    obtain ⟨its2, rv2, p2, _⟩ := I.tuple hqy
    have l1 := rv.length
    have l2 := rv2.length
    have D1 := Draws.tuple (prog := X.prog) (w := X.w) (A := X.A.in1) (I.ok.hd hc) i1 a n1 its.toArray
    have D2 := Draws.tuple (prog := X.prog) (w := X.w) (A := X.A.in1) (I.ok.hd hc) i2 b n2 its2.toArray
    exact wpAny_pyNext_zipD2_end S D1 D2 hz hTI hTO ⟨h1, (show s.heap.IsTuple a its.toArray from p)⟩ ⟨h2, (show s.heap.IsTuple b its2.toArray from p2)⟩ (by simp; omega) (by simp; omega) (by simp; omega) fun h' tk hk => ⟨rfl, I.turnedL (t' := tk) (ch := [z, TI, TO, i1, i2]) (fun c o hb q =>
      hk c o (fun q' => hb (by simp [q'])) (fun q' => hb (by simp [q'])) (fun q' => hb (by simp [q'])) (fun q' => hb (by simp [q'])) q) hf⟩
  self := fun A i s Q E st h => wpAny_pyIter_zip st.1 h
theorem sep_new (n a b : Nat) (la : a < n) (lb : b < n) : ZipSep2 (n + 4) (n + 2) (n + 3) n (n + 1) [n, a] [n + 1, b] := by
  have h1 : n ≠ a := Nat.ne_of_gt la
  have h2 : n ≠ b := Nat.ne_of_gt lb
  have h3 : n + 1 ≠ a := Nat.ne_of_gt (Nat.lt_succ_of_lt la)
  have h4 : n + 4 ≠ a := Nat.ne_of_gt (by omega)
  have h5 : n + 4 ≠ b := Nat.ne_of_gt (by omega)
  have h6 : n + 3 ≠ a := Nat.ne_of_gt (by omega)
  have h7 : n + 3 ≠ b := Nat.ne_of_gt (by omega)
  constructor <;> simp [h1, h2, h3, h4, h5, h6, h7]
theorem pi_zipG {X : Cx} {e e2 : Expr} {ta : TA} {p pos tpos : Pos} {elts : List Expr} {kk : Nat} (hg : Gl X "zip") (hm : X.mg "zip" = none) (ha : PA X [e, e2] ta)
    (hs : starEach [e, e2] X.env = (false, eval e X.env) :: starEach [e2] X.env := by rfl) (hpl : (backTo pos (starEach [e2] X.env)).any (·.1) = false := by rfl) :
    PI X (.Tuple elts kk tpos) (.Call (.Name "zip" p) [e, e2] [] pos) (fun σ H R => ta σ H fun vs H1 => ∃ a b xs ys, vs = [.ref a, .ref b] ∧ ((SqT X.K H1 a xs ∧ SqT X.K H1 b ys ∧ R (ItZt X.K a b) H1) ∨ (SqL X.K H1 a xs ∧ SqL X.K H1 b ys ∧ R (Itz X.K a b) H1))) := by
  refine ⟨fun pins s σ H R I h => ?_⟩
  refine Call_ (ld_blt I hg hm PyProof.Rows.boot_zip (PyProof.Rows.callWith_type1 (thn (ha.run pos pins s σ H _ I h) fun us s1 ⟨vs, H1, I1, r1, q1⟩ => ?_) hs hpl))
  obtain ⟨a, b, xs, ys, ex, q1⟩ := q1
  subst ex
  cases r1 with
  | cons r rr =>
    cases rr with
    | cons r' rr =>
      cases rr
      cases r
      cases r'
      have fresh : ∀ c ∈ [s1.heap.objs.size + 4, s1.heap.objs.size + 2, s1.heap.objs.size + 3, s1.heap.objs.size, s1.heap.objs.size + 1], FpOk X pins H1 c := fun c hcm => by
        have hle : s1.heap.objs.size ≤ c := by
          rcases (show c = s1.heap.objs.size + 4 ∨ c = s1.heap.objs.size + 2 ∨ c = s1.heap.objs.size + 3 ∨ c = s1.heap.objs.size ∨ c = s1.heap.objs.size + 1 by simpa using hcm) with z | z | z | z | z
          · rw [z]; exact Nat.le_add_right _ _
          · rw [z]; exact Nat.le_add_right _ _
          · rw [z]; exact Nat.le_add_right _ _
          · rw [z]; exact Nat.le_refl _
          · rw [z]; exact Nat.le_add_right _ _
        exact I1.fpOk hle (I1.hok.fresh hle)
      rcases q1 with ⟨hqx, hqy, q⟩ | ⟨hqx, hqy, q⟩
      · obtain ⟨its, rv, p1, _⟩ := I1.tuple hqx
        obtain ⟨its2, rv2, p2, _⟩ := I1.tuple hqy
        have pT1 : s1.heap.IsTuple a its.toArray := p1
        have pT2 : s1.heap.IsTuple b its2.toArray := p2
        have la : a < s1.heap.objs.size := by obtain ⟨o, e, _⟩ := pT1; exact Heap.lt_size e
        have lb : b < s1.heap.objs.size := by obtain ⟨o, e, _⟩ := pT2; exact Heap.lt_size e
        refine zip_begins2 (begins_tuple a its.toArray) (begins_tuple b its2.toArray) pT1 pT2 fun h' hz hTI hTO g1 g2 hsz hk => wpAny_pyIter_zip hz ?_
        exact ⟨s1.heap.objs.size + 4, [s1.heap.objs.size + 4, s1.heap.objs.size + 2, s1.heap.objs.size + 3, s1.heap.objs.size, s1.heap.objs.size + 1], _, _, H1, rfl, I1.kept (t' := s1.toks) hk, turnZt (sep_new s1.heap.objs.size a b la lb) (Nat.ne_of_lt la) (Nat.ne_of_lt (Nat.lt_succ_of_lt lb)), ⟨hz, hTI, ⟨_, _, hTO⟩, ⟨_, g1, rfl, rfl⟩, ⟨_, g2, rfl, rfl⟩⟩, fresh, q⟩
      · obtain ⟨its, rv, p1, _⟩ := I1.list hqx
        obtain ⟨its2, rv2, p2, _⟩ := I1.list hqy
        have la : a < s1.heap.objs.size := p1.lt
        have lb : b < s1.heap.objs.size := p2.lt
        refine call_zip_2 p1.isList p2.isList fun h' hz hTI hTO h1 h2 hsz hk => wpAny_pyIter_zip hz ?_
        exact ⟨s1.heap.objs.size + 4, [s1.heap.objs.size + 4, s1.heap.objs.size + 2, s1.heap.objs.size + 3, s1.heap.objs.size, s1.heap.objs.size + 1], _, _, H1, rfl, I1.kept (t' := s1.toks) hk, turn_zip (PySem.W.ktu_apart s1.heap.objs.size a b la lb), ⟨hz, hTI, ⟨_, _, hTO⟩, h1, h2⟩, fresh, q⟩
section
variable {X : Cx} {B : Bs}
def zipP : List D → List D → List D
  | x :: xs, y :: ys => .tup [x, y] :: zipP xs ys
  | _, _ => []
theorem zipP_get : ∀ (xs ys : List D) (i : Nat) (d : D), (zipP xs ys)[i]? = some d → ∃ x y, xs[i]? = some x ∧ ys[i]? = some y ∧ d = .tup [x, y]
  | [], _, _, _, h => by simp [zipP] at h
  | _ :: _, [], _, _, h => by simp [zipP] at h
  | x :: xs, y :: ys, 0, d, h => by
    simp only [zipP, List.getElem?_cons_zero, Option.some.injEq] at h
    exact ⟨x, y, rfl, rfl, h.symm⟩
  | x :: xs, y :: ys, i + 1, d, h => by
    simp only [zipP, List.getElem?_cons_succ] at h
    obtain ⟨a, b, h1, h2, h3⟩ := zipP_get xs ys i d h
    exact ⟨a, b, by simpa using h1, by simpa using h2, h3⟩
theorem zipP_length : ∀ (xs ys : List D), (zipP xs ys).length = min xs.length ys.length
  | [], _ => by simp [zipP]
  | _ :: _, [] => by simp [zipP]
  | _ :: xs, _ :: ys => by rw [zipP, List.length_cons, List.length_cons, List.length_cons, zipP_length xs ys]; omega
def tupO : D → Option (List D)
  | .tup xs => some xs
  | .ftup xs => some xs
  | _ => none
/-- zip of two tuples; of two lists -/
def iZip (ta tb : DTE) : DTI := fun ρ m q => ta ρ m fun d m1 => tb ρ m1 fun e m2 => match tupO d, tupO e with
  | some xs, some ys => q ⟨zipP xs ys, fun _ => True⟩ m2
  | _, _ => match d, e with
    | .ref a, .ref b => match m2 a, m2 b with
      | some (.lst xs), some (.lst ys) => q ⟨zipP xs ys, fun m' => m' a = some (.lst xs) ∧ m' b = some (.lst ys)⟩ m2
      | _, _ => False
    | _, _ => False
theorem tupO_rep {K : PySem.W.Frag} {H : Hp} {d : D} {v : V} {xs : List D} (h : tupO d = some xs) (r : Rep K H d v) : ∃ a vs, v = .ref a ∧ Reps K H xs vs ∧ ∀ H', Ext H H' → SqT K H' a vs := by
  cases r with
  | tup g rs => cases h; exact ⟨_, _, rfl, rs, fun H' x => SqT.of (x.tup _ _ g)⟩
  | ftup g n rs => cases h; exact ⟨_, _, rfl, rs, fun H' x => .inl (.inr ⟨_, x.frz _ _ _ g⟩)⟩
  | _ => cases h
theorem ItOk.zipT {K : PySem.W.Frag} {a b : Addr} {vs us : List V} {xs ys : List D} {H0 : Hp} {m0 : Mem} (h : ∀ H', Ext H0 H' → SqT K H' a vs) (g : ∀ H', Ext H0 H' → SqT K H' b us) (r : Reps K H0 xs vs) (t : Reps K H0 ys us) : ItOk K ⟨zipP xs ys, fun _ => True⟩ (ItZt K a b) H0 m0 where
  go := fun i d m H e s st c => by
    obtain ⟨x0, y0, h1, h2, hd⟩ := zipP_get xs ys i d e
    obtain ⟨v, v1, v2⟩ := (r.mono st.ext).get h1
    obtain ⟨u, u1, u2⟩ := (t.mono st.ext).get h2
    refine ⟨⟨vs, us, v, u, h _ st.ext, g _ st.ext, v1, u1⟩, fun x H' ⟨T, z, z', e1, e2, e3, e4, e5⟩ => ?_⟩
    subst e1 e3
    have q1 := e4 vs (h _ st.ext)
    rw [v1] at q1; cases q1
    have q2 := e5 us (g _ st.ext)
    rw [u1] at q2; cases q2
    rw [hd]
    exact ⟨.tup upd_same (.cons (v2.mono (upd_new e2)) (.cons (u2.mono (upd_new e2)) .nil)), s.alloc e2, Step.alloc e2⟩
  stop := fun m H s st c => by
    have l1 := r.length
    have l2 := t.length
    refine ⟨vs, us, h _ st.ext, g _ st.ext, ?_, ?_, ?_⟩ <;> show _ <;> simp only [zipP_length] <;> omega
theorem ItOk.zipL {K : PySem.W.Frag} {a b : Addr} {xs ys : List D} {H0 : Hp} {m0 : Mem} : ItOk K ⟨zipP xs ys, fun m' => m' a = some (.lst xs) ∧ m' b = some (.lst ys)⟩ (Itz K a b) H0 m0 where
  go := fun i d m H e s st c => by
    obtain ⟨vs, hv, r⟩ := s a _ c.1
    obtain ⟨us, hu, t⟩ := s b _ c.2
    obtain ⟨x0, y0, h1, h2, hd⟩ := zipP_get xs ys i d e
    obtain ⟨v, v1, v2⟩ := r.get h1
    obtain ⟨u, u1, u2⟩ := t.get h2
    refine ⟨⟨vs, us, v, u, SqL.of hv, SqL.of hu, v1, u1⟩, fun x H' ⟨T, z, z', e1, e2, e3, e4, e5⟩ => ?_⟩
    subst e1 e3
    have q1 := e4 vs (SqL.of hv)
    rw [v1] at q1; cases q1
    have q2 := e5 us (SqL.of hu)
    rw [u1] at q2; cases q2
    rw [hd]
    exact ⟨.tup upd_same (.cons (v2.mono (upd_new e2)) (.cons (u2.mono (upd_new e2)) .nil)), s.alloc e2, Step.alloc e2⟩
  stop := fun m H s st c => by
    obtain ⟨vs, hv, r⟩ := s a _ c.1
    obtain ⟨us, hu, t⟩ := s b _ c.2
    have l1 := r.length
    have l2 := t.length
    refine ⟨vs, us, SqL.of hv, SqL.of hu, ?_⟩
    show _ ∨ _
    simp only [zipP_length]
    omega
theorem di_zip {e e2 : Expr} {te te2 : DTE} {p pos tpos : Pos} {elts : List Expr} {kk : Nat} (hg : Gl X "zip") (hm : X.mg "zip" = none) (he : DE B X e te) (he2 : DE B X e2 te2)
    (hs : starEach [e, e2] X.env = (false, eval e X.env) :: starEach [e2] X.env := by rfl) (hs2 : starEach [e2] X.env = [(false, eval e2 X.env)] := by rfl) (hpl : (backTo pos (starEach [e2] X.env)).any (·.1) = false := by rfl) :
    DI B X (.Tuple elts kk tpos) (.Call (.Name "zip" p) [e, e2] [] pos) (iZip te te2) :=
  pi_imp (pi_zipG hg hm (pa_cons he (pa_cons he2 pa_nil hs2) hs) hs hpl) fun σ H R ⟨ρ, m, q, p, h, post⟩ => ⟨ρ, m, _, p, h, fun d m1 v H1 h1 r1 s1 t1 => ⟨ρ, m1, _, p.next s1 t1, h1, fun d2 m2 v2 H2 h2 r2 s2 t2 => by
    split at h2
    · rename_i xs ys e1 e3
      obtain ⟨a, vs, rfl, rx, qa⟩ := tupO_rep e1 (r1.mono t2.ext)
      obtain ⟨b, us, rfl, ry, qb⟩ := tupO_rep e3 r2
      exact ⟨a, b, vs, us, rfl, .inl ⟨qa _ (Ext.refl _), qb _ (Ext.refl _), post _ m2 _ H2 h2 (ItOk.zipT qa qb rx ry) s2 (t1.trans t2)⟩⟩
    · split at h2
      · rename_i dd ee a b hno
        split at h2
        · rename_i xs ys ea eb
          cases r1; cases r2
          obtain ⟨vs, hv, _⟩ := s2 a _ ea
          obtain ⟨us, hu, _⟩ := s2 b _ eb
          exact ⟨a, b, vs, us, rfl, .inr ⟨SqL.of hv, SqL.of hu, post _ m2 _ H2 h2 ItOk.zipL s2 (t1.trans t2)⟩⟩
        · exact h2.elim
      · exact h2.elim⟩⟩
end
end L2.Lh

/-! a.extend(t), t a tuple -/
namespace L2.Lh
open PySem PySem.Spec PyProof.Rows
open AutoSeq1 (wpAny_loadPart')
section
variable {X : Cx}
end
end L2.Lh

/-! len(set(xs)) of ints; xs.index(y) of data -/
namespace L2.Lh
open PySem PySem.Spec PyProof.Rows
section
variable {X : Cx} {B : Bs}
/-- xs.index(y) -/
def lidxD : DRM := fun x ds m q => match x, ds with
  | .ref a, [y] => ∃ ps p j z, pyD m (.ref a) = some (.list ps) ∧ pyD m y = some p ∧ SeqAt.shaped (.list ps) = true ∧ SeqAt.shaped p = true ∧ ps[j]? = some z ∧ PyData.eqv z p = true ∧ (∀ (i : Nat) (z' : PyData), i < j → ps[i]? = some z' → PyData.eqv z' p = false) ∧ q (.int (j : Nat)) m
  | _, _ => False
theorem m_lidx (hu : X.A.units + 65 < cLine) : MtR X "list.index" (upM X.K lidxD) := by
  intro pins s σ H x xs v us Q I rx rv ⟨d, ds, m, q, r1, r2, sim, h, post⟩
  unfold lidxD at h
  split at h
  · rename_i a y
    obtain ⟨ps, p, j, z, e1, e2, s1, s2, hz, hzp, hno, hq⟩ := h
    cases r1
    cases r2 with
    | cons q1 q2 =>
      cases q2
      exact mt_indexD hu pins s σ H _ _ v us Q I rx rv ⟨a, _, p, ps, j, z, rfl, rfl, pyW_ok (pyA_ok sim 3) (.ref a) e1, pyW_ok (pyA_ok sim 3) q1 e2, s1, s2, hz, hzp, hno, post.here hq (.int _) sim⟩
  · exact h.elim
end
end L2.Lh

/-! try: n = d[k], except KeyError -/
namespace L2.Lh
open PySem PySem.Spec PyProof.Rows LamX
section
variable {X : Cx} {B : Bs}
end
end L2.Lh

/-! list(range(a, b)) -/
namespace L2.Lh
open PySem PySem.Spec PyProof.Rows LamX
section
variable {X : Cx} {B : Bs}
def dListRg2 (ta tb : DTE) : DTL := fun ρ m q => ta ρ m fun d m1 => tb ρ m1 fun e m2 => match d, e with
  | .int i, .int j => RgOk i j ∧ q (rngD i (j - i).toNat) m2
  | _, _ => False
end
end L2.Lh

/-! repr of None, True, texts and the empty dict besides -/
namespace L2.Lh
open PySem PySem.Spec PyProof.Rows LamX
section
variable {X : Cx}
end
end L2.Lh

/-! d.update(e), dicts with nested keys -/
namespace L2.Lh
open PySem PySem.Spec PyProof.Rows LamX
section
variable {X : Cx} {B : Bs} {o e : Expr} {to te : DTE} {apos cpos : Pos}
end
end L2.Lh

/-! d == {}, d != {}, d a dict with nested keys -/
namespace L2.Lh
open PySem PySem.Spec PyProof.Rows LamX PySem.W PySem.Calls
section
variable {prog : Program} {w : World} {A : Around} {E : Value → Shared → Prop} {s : Shared}
end
section
variable {X : Cx}
end
end L2.Lh

/-! str of an int -/
namespace L2.Lh
open PySem PySem.Spec PyProof.Rows LamX
section
variable {X : Cx}
end
end L2.Lh

/-! an int or a dict among ints -/
namespace L2.Lh
open PySem PySem.Spec PyProof.Rows LamX PySem.W PySem.Calls PySem.SeqAt PySem.MeetsSeq
section
variable {A : Around} {s : Shared}
end
theorem vals_ints : ∀ {ns : List Int} {us : List Value}, Vals (ns.map V.int) us → ∀ y ∈ us, ∃ n t, y = Value.int n t
  | [], _, r, y, hy => by cases r; cases hy
  | n :: ns, _, r, y, hy => by
    rw [List.map_cons] at r
    cases r with
    | cons q r =>
      rcases List.mem_cons.mp hy with rfl | z
      · obtain ⟨t, e⟩ := q
        exact ⟨n, t, e⟩
      · exact vals_ints r y z
section
variable {X : Cx}
end
end L2.Lh

/-! an instance made by keywords -/
namespace L2.Lh
open PySem PySem.Spec PyProof.Rows LamX
section
variable {X : Cx} {B : Bs} {t : DTA} {sp : DSp} {qe : Value → Mem → Prop} {x : Str} {p pos : Pos} {C f : Addr} {fd : FuncData} {k : Nat} {ps ks : List Str} {ix : List Nat} {kws : List Keyword}
end
end L2.Lh

/-! d.values(), d.items(), enumerate(d): d a dict whose keys are tuples -/
namespace L2.Lh
open PySem PySem.Spec PyProof.Rows LamX
section
variable {X : Cx}
theorem raw_of {pins : List (Addr × Obj)} {σ : St} {H : Hp} {s : Shared} {a : Addr} {es : Array DictEntry} {ep : Nat} (I : Inv X pins σ H s) (h : H a = some (.ext (rawIs a es ep))) : s.heap.DictRaw a es ep := (I.hok a _ h).1
theorem raw_noDict {h : Heap} {a : Addr} {es : Array DictEntry} {ep : Nat} (r : h.DictRaw a es ep) : ∀ b, Value.ref a = .ref b → ∃ ob, h.get? b = some ob ∧ ob.dict = none :=
  fun b e => by injection e with e; subst e; exact let ⟨o, ho, hc, _⟩ := r; ⟨o, ho, hc.2.1⟩
theorem vals_of_map {α : Type} {f : α → V} {g : α → Value} : ∀ {xs : List α}, (∀ x ∈ xs, RelV (f x) (g x)) → Vals (xs.map f) (xs.map g)
  | [], _ => .nil
  | x :: xs, h => .cons (h x List.mem_cons_self) (vals_of_map fun y hy => h y (List.mem_cons_of_mem _ hy))
theorem repN_vals {K : PySem.W.Frag} {H : Hp} : ∀ {kvs : List (NestedKey × D)} {xs : List (NestedKey × Addr × Value)}, RepN K H kvs xs → ∃ vs, Reps K H (kvs.map (·.2)) vs ∧ Vals vs (xs.map (·.2.2))
  | _, _, .nil => ⟨[], .nil, .nil⟩
  | _, _, .cons q r => by
    obtain ⟨vs, h1, h2⟩ := repN_vals r
    obtain ⟨_, _, v, h3, h4⟩ := q
    exact ⟨v :: vs, .cons h3 h1, .cons h4 h2⟩
theorem rawN_vals {P : Program} {w : World} {K : PySem.W.Frag} {H : Hp} {a : Addr} {kvs : List (NestedKey × D)} {es : Array DictEntry} {ep : Nat} {xs : List (NestedKey × Addr × Value)} (r : RawN K H a kvs es ep xs) : es.toList.map (·.val) = xs.map (·.2.2) := by
  rw [r.ent P w, List.map_map]; rfl
theorem rawN_size {P : Program} {w : World} {K : PySem.W.Frag} {H : Hp} {a : Addr} {kvs : List (NestedKey × D)} {es : Array DictEntry} {ep : Nat} {xs : List (NestedKey × Addr × Value)} (r : RawN K H a kvs es ep xs) : es.size = xs.length := by
  have e1 := congrArg List.length (r.ent P w)
  rw [List.length_map, Array.length_toList] at e1
  exact e1
end
section
variable {X : Cx} {B : Bs}
/-! ### items -/
end
end L2.Lh

/-! enumerate(d): d a dict whose keys are tuples -/
namespace L2.Lh
open PySem PySem.Spec PyProof.Rows LamX
section
variable {prog : Program} {w : World} {A : Around} {E : Value → Shared → Prop} {s : Shared}
theorem nextOf_key_item {it d : Addr} {i ep : Nat} {es : Array DictEntry} {Q : Value → Shared → Prop} (hit : s.heap.IsKeyIter it d i es.size ep) (hm : s.heap.DictRaw d es ep) (hlt' : i < es.size)
    (hQ : ∀ h', h'.IsKeyIter it d (i + 1) es.size ep → Heap.SameBut it s.heap h' → Q es[i].key { s with heap := h' }) : wpAny (model prog w) A (Builtin.SmallTypes.nextOf (.ref it)) Q E s := by
  obtain ⟨o, ho, hc, hd⟩ := id hit
  obtain ⟨od, hod, hcd, hdd⟩ := id hm
  unfold Builtin.SmallTypes.nextOf
  refine wpAny_bind (wpAny_callSpecial?_slot (name := Str.ofString "__next__") hit.typeIs F.slot_dict_keyiterator_next
    (wpAny_call_entry F.slot_dict_keyiterator_next hit.typeIs F.entry_dict_keyiterator_next ?_ (F.args_dict_keyiterator_next_1 _)))
  refine wpAny_bind (wpAny_pure ?_)
  refine wpAny_bind ?_
  refine wpAny_bind ?_
  first | refine wpAny_bind (wpAny_typeNameOfWhole_keyiter hit.typeIs (wpAny_pure ?_)) | refine wpAny_bind (wpAny_typeNameOf_keyiter hit.typeIs (wpAny_pure ?_))
  refine wpAny_bind (wpAny_fieldsOf ho hd ?_)
  have hown : Builtin.Dict_items.ownsTuple "dict_keyiterator" = false := by decide
  simp only [hown, Bool.false_eq_true, if_false]
  show wpAny _ _ (if (Value.ref d == Value.none) = true then _ else _) _ _ s
  rw [if_neg (show ¬ ((Value.ref d == Value.none) = true) from Bool.false_ne_true)]
  refine wpAny_bind (wpAny_pure ?_)
  refine wpAny_bind (wpAny_dictEntries hod hdd ?_)
  rw [if_neg (by simp)]
  refine wpAny_bind (wpAny_pure ?_)
  refine wpAny_bind (wpAny_dictEpoch hod hdd ?_)
  rw [if_neg (by simp)]
  refine wpAny_pure ?_
  simp only [show ¬ ((i : Int) < 0) from by omega, if_false, Int.toNat_natCast, Array.getElem?_eq_getElem hlt']
  refine wpAny_bind ?_
  first | refine wpAny_bind (wpAny_typeNameOfWhole_keyiter hit.typeIs (wpAny_pure ?_)) | refine wpAny_bind (wpAny_typeNameOf_keyiter hit.typeIs (wpAny_pure ?_))
  refine wpAny_bind (wpAny_isOneOf_keyiter hit.typeIs ?_)
  show wpAny _ _ (setField (.ref it) 1 (rawInt ((i : Int) + 1)) >>= _) _ _ s
  refine wpAny_bind (wpAny_setField ho hd (by simp) ?_)
  have hit' : (s.heap.update it (Obj.mapFields (·.setIfInBounds 1 (rawInt ((i : Int) + 1))))).IsKeyIter it d (i + 1) es.size ep :=
    ⟨_, Heap.get?_update_self _ ho (Obj.isFreed_of_fields (Obj.data_mapFields hd _)), (Obj.cls_mapFields ..).trans hc, by rw [Obj.data_mapFields hd]; simp [rawInt]⟩
  refine wpAny_bind (wpAny_holding ?_)
  refine wpAny_bind (wpAny_isOneOf_keyiter (s := { s with heap := s.heap.update it (Obj.mapFields (·.setIfInBounds 1 (rawInt ((i : Int) + 1)))) }) hit'.typeIs ?_)
  show wpAny _ _ (pure es[i].key) _ _ _
  exact wpAny_pure (wpAny_pure ⟨_, rfl, wpAny_pure (hQ _ hit' (Heap.SameBut.update ..))⟩)
theorem nextOf_key_end {it d : Addr} {i ep : Nat} {es : Array DictEntry} {Q : Value → Shared → Prop} (hh : A.handled = none) (hit : s.heap.IsKeyIter it d i es.size ep) (hm : s.heap.DictRaw d es ep) (hge : es.size ≤ i)
    (hE : ∀ h' e, Heap.ExtBut it s.heap h' → (∃ o, h'.get? e = some o ∧ o.cls = .type "StopIteration") → E (.ref e) { s with heap := h' }) : wpAny (model prog w) A (Builtin.SmallTypes.nextOf (.ref it)) Q E s := by
  obtain ⟨o, ho, hc, hd⟩ := id hit
  obtain ⟨od, hod, hcd, hdd⟩ := id hm
  unfold Builtin.SmallTypes.nextOf
  refine wpAny_bind (wpAny_callSpecial?_slot (name := Str.ofString "__next__") hit.typeIs F.slot_dict_keyiterator_next
    (wpAny_call_entry F.slot_dict_keyiterator_next hit.typeIs F.entry_dict_keyiterator_next ?_ (F.args_dict_keyiterator_next_1 _)))
  refine wpAny_bind (wpAny_pure ?_)
  refine wpAny_bind ?_
  refine wpAny_bind ?_
  first | refine wpAny_bind (wpAny_typeNameOfWhole_keyiter hit.typeIs (wpAny_pure ?_)) | refine wpAny_bind (wpAny_typeNameOf_keyiter hit.typeIs (wpAny_pure ?_))
  refine wpAny_bind (wpAny_fieldsOf ho hd ?_)
  have hown : Builtin.Dict_items.ownsTuple "dict_keyiterator" = false := by decide
  simp only [hown, Bool.false_eq_true, if_false]
  show wpAny _ _ (if (Value.ref d == Value.none) = true then _ else _) _ _ s
  rw [if_neg (show ¬ ((Value.ref d == Value.none) = true) from Bool.false_ne_true)]
  refine wpAny_bind (wpAny_pure ?_)
  refine wpAny_bind (wpAny_dictEntries hod hdd ?_)
  rw [if_neg (by simp)]
  refine wpAny_bind (wpAny_pure ?_)
  refine wpAny_bind (wpAny_dictEpoch hod hdd ?_)
  rw [if_neg (by simp)]
  refine wpAny_pure ?_
  simp only [show ¬ ((i : Int) < 0) from by omega, if_false, Int.toNat_natCast, Array.getElem?_eq_none hge]
  refine wpAny_bind ?_
  first | refine wpAny_bind (wpAny_typeNameOfWhole_keyiter hit.typeIs (wpAny_pure ?_)) | refine wpAny_bind (wpAny_typeNameOf_keyiter hit.typeIs (wpAny_pure ?_))
  show wpAny _ _ (setField (.ref it) 0 .none >>= _) _ _ s
  refine wpAny_bind (wpAny_setField ho hd (by simp) ?_)
  show wpAny _ _ (newExc (.type "StopIteration") [] >>= _) _ _ _
  refine wpAny_bind ?_
  simp only [newExc, newTuple]
  refine wpAny_bind (wpAny_newObj_type ?_ (by size_fits))
  refine wpAny_bind (m := firstArgMember _ _) (wpAny_of_eq (a := Value.none) (by first | rfl | (simp only [firstArgMember]; rfl)) ?_)
  refine wpAny_newObj_type ?_ (by size_fits)
  simp only [raiseNew]
  refine wpAny_bind (wpAny_handled ?_)
  first | rw [show A.in1.handled = none from hh] | rw [hh]
  refine wpAny_bind (wpAny_pure (wpAny_throw ?_))
  exact hE _ _ (((Heap.SameBut.update ..).extBut.push _).push _) ⟨_, Heap.get?_push_size _ rfl, rfl⟩
theorem Draws.keys (hh : A.handled = none) (it d : Addr) (hne : d ≠ it) (es : Array DictEntry) (ep : Nat) :
    Draws prog w A it [it, d] es.size (fun i v => ∃ hi : i < es.size, v = es[i].key) (fun i h => h.IsKeyIter it d i es.size ep ∧ h.DictRaw d es ep) where
  live := fun _ _ st => let ⟨o, ho, _⟩ := st.1; ⟨o, ho⟩
  frame := fun _ _ _ st hk => ⟨st.1.at fun o e => hk it (by simp) o e, st.2.at fun o e => hk d (by simp) o e⟩
  item := fun i s Q E hi st hQ => by
    refine nextOf_key_item st.1 st.2 hi fun h' hit' hs' => ?_
    exact hQ _ h' s.toks ⟨hi, rfl⟩ ⟨hit', st.2.at fun o e => hs'.extBut d o hne e⟩ hs'
  done := fun s Q E st hE => nextOf_key_end hh st.1 st.2 (Nat.le_refl _) hE
end
section
variable {X : Cx} {B : Bs}
end
end L2.Lh

/-! a text so many times: some text -/
namespace L2.Lh
open PySem PySem.Spec PyProof.Rows LamX
section
variable {X : Cx}
end
end L2.Lh

/-! sorted(xs), xs a list or the keys of a dict: tuples of whole numbers, all of one length -/
namespace L2.Lh
open PySem PySem.Spec PyProof.Rows LamX
section
open TS
variable {prog : Program} {w : World} {A : Around} {E : Value → Shared → Prop} {s : Shared}
end
/-- two lists told item by item -/
inductive Two {α β : Type} (R : α → β → Prop) : List α → List β → Prop
  | nil : Two R [] []
  | cons {a b as bs} : R a b → Two R as bs → Two R (a :: as) (b :: bs)
theorem Two.mem {α β : Type} {R : α → β → Prop} {as : List α} {bs : List β} (h : Two R as bs) : ∀ {b}, b ∈ bs → ∃ a ∈ as, R a b := by
  induction h with
  | nil => intro b hb; cases hb
  | cons r t ih =>
    intro b hb
    rcases List.mem_cons.mp hb with rfl | hb
    · exact ⟨_, List.mem_cons_self, r⟩
    · obtain ⟨a, h1, h2⟩ := ih hb
      exact ⟨a, List.mem_cons_of_mem _ h1, h2⟩
theorem Two.mem' {α β : Type} {R : α → β → Prop} {as : List α} {bs : List β} (h : Two R as bs) : ∀ {a}, a ∈ as → ∃ b ∈ bs, R a b := by
  induction h with
  | nil => intro b hb; cases hb
  | cons r t ih =>
    intro b hb
    rcases List.mem_cons.mp hb with rfl | hb
    · exact ⟨_, List.mem_cons_self, r⟩
    · obtain ⟨a, h1, h2⟩ := ih hb
      exact ⟨a, List.mem_cons_of_mem _ h1, h2⟩
theorem Two.pairs {α β : Type} {R : α → β → Prop} {P : α → α → Prop} {Q : β → β → Prop} {as : List α} {bs : List β} (h : Two R as bs) (hQ : bs.Pairwise Q) (hPQ : ∀ a b a' b', R a b → R a' b' → Q b b' → P a a') : as.Pairwise P := by
  induction h with
  | nil => exact .nil
  | cons r t ih =>
    obtain ⟨h1, h2⟩ := List.pairwise_cons.mp hQ
    refine List.pairwise_cons.mpr ⟨fun a' ha => ?_, ih h2⟩
    obtain ⟨b', hb, r'⟩ := t.mem' ha
    exact hPQ _ _ _ _ r r' (h1 b' hb)
section
variable {X : Cx} {pins : List (Addr × Obj)} {σ : St} {H : Hp} {s : Shared}
def RepU (K : PySem.W.Frag) (H : Hp) (d : D) (v : Value) : Prop := ∃ z, Rep K H d z ∧ RelV z v
theorem repU_of {K : PySem.W.Frag} : ∀ {ds : List D} {zs : List V} {vs : List Value}, Reps K H ds zs → Vals zs vs → Two (RepU K H) ds vs
  | _, _, _, .nil, .nil => .nil
  | _, _, _, .cons r t, .cons r2 t2 => .cons ⟨_, r, r2⟩ (repU_of t t2)
theorem repU_to {K : PySem.W.Frag} {ds : List D} {vs : List Value} (h : Two (RepU K H) ds vs) : ∃ zs, Reps K H ds zs ∧ Vals zs vs := by
  induction h with
  | nil => exact ⟨[], .nil, .nil⟩
  | cons r t ih =>
    obtain ⟨z, h1, h2⟩ := r
    obtain ⟨zs, h3, h4⟩ := ih
    exact ⟨z :: zs, .cons h1 h3, .cons h2 h4⟩
end
end L2.Lh

/-! {} == a tuple -/
namespace L2.Lh
open PySem PySem.Spec PyProof.Rows LamX PySem.W PySem.Calls PySem.SeqAt PySem.MeetsSeq
section
variable {A : Around} {s : Shared}
end
section
variable {X : Cx}
end
end L2.Lh

/-! xs[::-1], xs a list -/
namespace L2.Lh
open PySem PySem.Spec PyProof.Rows LamX
section
variable {X : Cx} {B : Bs}
end
end L2.Lh

/-! tuples put together, the very object known; tuple(range(a, b)) -/
namespace L2.Lh
open PySem PySem.Spec PyProof.Rows LamX
section
variable {X : Cx} {B : Bs}
def dTupRg2 (ta tb : DTE) : DTE := fun ρ m q => dListRg2 ta tb ρ m fun ds m' => q (.tup ds) m'
theorem de_tupRg2 {a b : Expr} {ta tb : DTE} {p p2 pos pos2 : Pos} (hc : X.calm = true) (hg : Gl X "tuple") (hm : X.mg "tuple" = none) (hg2 : Gl X "range") (hm2 : X.mg "range" = none) (ha : DE B X a ta) (hb : DE B X b tb)
    (na : starEach [a, b] X.env = (false, eval a X.env) :: starEach [b] X.env := by rfl) (nb : starEach [b] X.env = (false, eval b X.env) :: starEach [] X.env := by rfl) (hp : (backTo pos2 (starEach [b] X.env)).any (·.1) = false := by rfl)
    (ne : starEach [Expr.Call (.Name "range" p2) [a, b] [] pos2] X.env = (false, eval (.Call (.Name "range" p2) [a, b] [] pos2) X.env) :: starEach [] X.env := by rfl) :
    DE B X (.Call (.Name "tuple" p) [.Call (.Name "range" p2) [a, b] [] pos2] [] pos) (dTupRg2 ta tb) :=
  pe_imp (pe_tupRg hc hg hm (prg_2 hg2 hm2 ha hb na nb hp) ne) fun σ H Q ⟨ρ, m, q, p, h, post⟩ => ⟨ρ, m, _, p, h, fun d m1 v H1 h1 r1 s1 t1 => ⟨ρ, m1, _, p.next s1 t1, h1, fun e m2 w H2 h2 r2 s2 t2 => by
    split at h2
    · rename_i i j
      cases r1
      cases r2
      obtain ⟨ok, h2⟩ := h2
      have post2 : PostE X.K H2 m2 q Q := fun d3 m3 v3 H3 h3 r3 s3 t3 => post d3 m3 v3 H3 h3 r3 s3 (t1.trans (t2.trans t3))
      refine ⟨i, j, rfl, rfl, ok, fun l hl => post2.tup h2 hl ?_ s2⟩
      rw [rgV_eq]
      exact reps_rng i _
    · exact h2.elim⟩⟩
end
end L2.Lh

/-! tuples of either kind put together, the very object known -/
namespace L2.Lh
open PySem PySem.Spec PyProof.Rows LamX
section
variable {X : Cx} {B : Bs}
def itemsTp : D → Option (List D)
  | .tup xs => some xs
  | .ftup xs => some xs
  | _ => none
theorem itemsTp_sq {K : PySem.W.Frag} {H : Hp} {d : D} {v : V} {xs : List D} (r : Rep K H d v) (e : itemsTp d = some xs) : ∃ a vs, v = .ref a ∧ SqT K H a vs ∧ Reps K H xs vs := by
  cases r with
  | tup h rs => cases e; exact ⟨_, _, rfl, SqT.of h, rs⟩
  | ftup h _ rs => cases e; exact ⟨_, _, rfl, .inl (.inr ⟨_, h⟩), rs⟩
  | _ => cases e
end
end L2.Lh

/-! dicts of ints and texts that stay as they are from now on: for k, v in d.items(), d.values(), for k in d; list(d); sorted(d.items()); dict(d) -/
namespace L2.Lh
open PySem PySem.Spec PyProof.Rows LamX
def keyV : Key → D
  | .inl i => .int i
  | .inr x => .str x
theorem keyV_rep {K : PySem.W.Frag} {H : Hp} : ∀ k : Key, Rep K H (keyV k) (kV k)
  | .inl i => .int i
  | .inr x => .str x
theorem repK_get {K : PySem.W.Frag} {H : Hp} : ∀ {kvs : List (Key × D)} {kv : List (Key × V)}, RepK K H kvs kv → ∀ {i : Nat} {p : Key × D}, kvs[i]? = some p → ∃ v, kv[i]? = some (p.1, v) ∧ Rep K H p.2 v
  | _, _, .nil, i, p, e => by simp at e
  | _, _, .cons (b := q) h r, 0, p, e => by
    simp only [List.getElem?_cons_zero, Option.some.injEq] at e
    subst e
    obtain ⟨k, v⟩ := q
    obtain ⟨h1, h2⟩ := h
    exact ⟨v, by rw [h1]; rfl, h2⟩
  | _, _, .cons h r, i + 1, p, e => by
    simp only [List.getElem?_cons_succ] at e ⊢
    exact repK_get r e
/-- a dict that may be walked -/
def dictAt (m : Mem) (a : Addr) (kvs : List (Key × D)) : Prop := m a = some (.dK kvs) ∨ m a = some (.dF kvs)
section
variable {X : Cx} {pins : List (Addr × Obj)} {σ : St} {H : Hp} {s : Shared} {m : Mem} {a : Addr} {kvs : List (Key × D)}
theorem dictAt.rd (sim : Sim X.K H m) (h : dictAt m a kvs) : ∃ kv, Rd H a (.dK kv) ∧ RepK X.K H kvs kv := by
  rcases h with h | h
  · obtain ⟨kv, h1, h2⟩ := sim a _ h; exact ⟨kv, .inl h1, h2⟩
  · obtain ⟨od, kv, h1, h2⟩ := sim a _ h; exact ⟨kv, .inr ⟨od, h1⟩, h2⟩
theorem ItOk.items {K : PySem.W.Frag} {H0 : Hp} {m0 : Mem} {od : Obj} {kv : List (Key × V)} (h : H0 a = some (.frz od (.dK kv))) (r : RepK K H0 kvs kv) : ItOk K ⟨kvs.map fun p => .tup [keyV p.1, p.2], fun _ => True⟩ (Iti a od kv) H0 m0 where
  go := fun i d m1 H1 e s1 st _ => by
    rw [List.getElem?_map] at e
    cases hp : kvs[i]? with
    | none => rw [hp] at e; cases e
    | some p =>
      rw [hp] at e
      cases e
      obtain ⟨v, h1, h2⟩ := repK_get (r.mono st.ext) hp
      have hl := (List.getElem?_eq_some_iff.mp h1).1
      refine ⟨⟨st.ext.frz _ _ _ h, hl⟩, fun x H' ⟨T, k, v', e1, e2, e3, e4⟩ => ?_⟩
      rw [h1] at e1
      cases e1
      subst e2 e4
      exact ⟨.tup upd_same (.cons (keyV_rep _) (.cons (h2.mono (upd_new e3)) .nil)), s1.alloc e3, Step.alloc e3⟩
  stop := fun m1 H1 s1 st _ => ⟨st.ext.frz _ _ _ h, by show kv.length ≤ (kvs.map _).length; rw [List.length_map]; exact Nat.le_of_eq (Paired.length r).symm⟩
theorem ItOk.keys {K : PySem.W.Frag} {H0 : Hp} {m0 : Mem} {od : Obj} {kv : List (Key × V)} (h : H0 a = some (.frz od (.dK kv))) (r : RepK K H0 kvs kv) : ItOk K ⟨kvs.map fun p => keyV p.1, fun _ => True⟩ (Itk a od kv) H0 m0 where
  go := fun i d m1 H1 e s1 st _ => by
    rw [List.getElem?_map] at e
    cases hp : kvs[i]? with
    | none => rw [hp] at e; cases e
    | some p =>
      rw [hp] at e
      cases e
      obtain ⟨v, h1, h2⟩ := repK_get (r.mono st.ext) hp
      have hl := (List.getElem?_eq_some_iff.mp h1).1
      refine ⟨⟨st.ext.frz _ _ _ h, hl⟩, fun x H' ⟨e0, k, v', e1, e2⟩ => ?_⟩
      subst e0 e2
      rw [h1] at e1
      cases e1
      exact ⟨keyV_rep _, s1, Step.refl _ _⟩
  stop := fun m1 H1 s1 st _ => ⟨st.ext.frz _ _ _ h, by show kv.length ≤ (kvs.map _).length; rw [List.length_map]; exact Nat.le_of_eq (Paired.length r).symm⟩
end
section
variable {X : Cx} {B : Bs}
/-! ### list(d), dict(d) -/
end
end L2.Lh

/-! divmod, reversed(range(n)), dict(d), sorted(d.items()) of ints -/
namespace L2.Lh
open PySem PySem.Spec PyProof.Rows LamX
section
variable {X : Cx} {B : Bs}
/-! ### reversed(range(n)) -/
/-! ### dict(d) -/
end
/-! ### sorted(d.items()), ints to ints -/
section
open TS
variable {prog : Program} {w : World} {A : Around} {E : Value → Shared → Prop} {s : Shared}
end
section
variable {X : Cx} {B : Bs}
end
end L2.Lh

/-! list(d.items()), sorted(d.items()): new tuples, many at once -/
namespace L2.Lh
open PySem PySem.Spec PyProof.Rows LamX
section
variable {X : Cx} {pins : List (Addr × Obj)} {σ : St} {H : Hp} {s : Shared} {m : Mem} {d : Addr} {kvs : List (Key × D)} {kv : List (Key × V)}
noncomputable def tupAt (kv : List (Key × V)) (as : List Addr) (a : Addr) : HO := match kv[as.idxOf a]? with
  | some p => .tup [kV p.1, p.2]
  | none => .tup []
end
section
variable {X : Cx} {B : Bs}
end
end L2.Lh

/-! defs with defaults -/
namespace L2.Lh
open PySem PySem.Spec PyProof.Rows LamX
section
variable {K : PySem.W.Frag}
variable {x qual : Str} {st : Stmt} {f : Addr} {fd : FuncData} {dvs : List V} {ps ks : List Str} {ix : List Nat}
end
section
variable {P : Program} {w : World} {K : PySem.W.Frag} {mg : Str → Option Value} {base : Heap}
end
section
variable {X : Cx} {B : Bs} {k : Nat} {ps : List Str} {sp : DSp} {we : DWX} {x : Str} {p pos : Pos} {e : Expr} {es : List Expr} {t : DTA} {ds0 : List D} {vs0 : List V}
end
section
variable {X : Cx} {B : Bs} {k : Nat} {ps ks : List Str} {ix : List Nat} {sp : DSp} {we : DWX} {x : Str} {p pos kpos : Pos} {e : Expr} {kws : List Keyword} {te : DTE} {t : DTA} {f : Addr} {fd : FuncData} {nm : Option Str}
end
end L2.Lh

/-! a part of a tuple whose very object is known *)
-/
namespace L2.Lh
open PySem PySem.Spec PyProof.Rows LamX
section
variable {X : Cx} {B : Bs} {e : Expr} {te : DTE} {tl th : DTO} {lo hi : Option Expr} {pos p2 : Pos}
end
end L2.Lh

/-! parts of a tuple whose very object is known, the whole too; such tuples put together -/
namespace L2.Lh
open PySem PySem.Spec PyProof.Rows LamX
def addF3 : DR2 := fun x y m q => ∃ xs ys, itemsTp x = some xs ∧ itemsTp y = some ys ∧ xs ≠ [] ∧ xs.length + ys.length ≤ sizeLine ∧ (ys = [] → q x m) ∧ (ys ≠ [] → q (.ftup (xs ++ ys)) m)
section
variable {X : Cx} {B : Bs} {e : Expr} {te : DTE} {tl th : DTO} {lo hi : Option Expr} {pos p2 : Pos}
theorem d_addF3 : OpD X (binaryOp .Add) addF3 := by
  intro pins s σ H x y v u Q I rx ry ⟨dx, dy, m, q, r1, r2, sim, h, post⟩
  obtain ⟨xs, ys, ex, ey, hx, hz, h0, h1'⟩ := h
  obtain ⟨a, vs, rfl, h1, q1⟩ := itemsTp_sq r1 ex
  obtain ⟨b, ws, rfl, h2, q2⟩ := itemsTp_sq r2 ey
  cases rx
  cases ry
  obtain ⟨its, e1, p1, _⟩ := I.tuple h1
  obtain ⟨its2, e2, p2, _⟩ := I.tuple h2
  have n1 : its ≠ [] := fun z => by
    subst z; cases e1; cases q1; exact hx rfl
  have l1 := e1.length
  have l2 := e2.length
  have l3 := q1.length
  have l4 := q2.length
  by_cases hy : ys = []
  · have n2 : its2 = [] := by
      subst hy; cases q2; cases e2; rfl
    refine HT.cat_tup p1 p2 n1 (fun _ => ?_) (fun z => absurd n2 z) (by omega)
    exact ⟨.ref a, H, I, rfl, post.here (h0 hy) r1 sim⟩
  · have n2 : its2 ≠ [] := fun z => by
      subst z; cases e2; cases q2; exact hy rfl
    refine HT.cat_tup p1 p2 n1 (fun z => absurd z n2) (fun _ => ?_) (by omega)
    have nw : H s.heap.objs.size = none := I.hok.fresh (Nat.le_refl _)
    have I2 : Inv X pins σ (upd H s.heap.objs.size (.frz { cls := .type "tuple", data := .seq (its ++ its2).toArray } (.tup (vs ++ ws)))) { s with heap := s.heap.push { cls := .type "tuple", data := .seq (its ++ its2).toArray } } :=
      I.laid (t' := s.toks) (fun b o e => Heap.get?_push_of_some _ e) (Nat.le_refl _) (show ObjOk X.prog X.w _ _ _ (.frz _ (.tup (vs ++ ws))) from ⟨Heap.get?_push_size _ rfl, by rw [List.length_append]; omega, its ++ its2, e1.append e2, IsTup.new _ _⟩)
    exact ⟨.ref _, _, I2, rfl, post (.ftup (xs ++ ys)) m _ _ (h1' hy) (.ftup upd_same rfl ((q1.append q2).mono (upd_new nw))) (sim.alloc nw) (Step.alloc nw)⟩
end
end L2.Lh

/-! products of two great numbers -/
namespace L2.Lh
open PySem PySem.Spec PyProof.Rows LamX
section
variable {X : Cx}
end
end L2.Lh

/-! {k: v, l: w, ..}: a dict of int and text keys, told at once -/
namespace L2.Lh
open PySem PySem.Spec PyProof.Rows LamX
abbrev DPr := List (DTE × DTE)
section
variable {X : Cx} {B : Bs} {ke ve : Expr} {tk tv : DTE} {pos : Pos} {ks : List (Option Expr)} {vs : List Expr} {ts : DPr}
end
end L2.Lh

namespace L2.Lh
open PySem PySem.Spec PyProof.Rows LamX
/-! ### sorted(), any number -/
section
variable {prog : Program} {w : World} {A : Around} {E : Value → Shared → Prop} {s : Shared}
end
section
variable {X : Cx} {B : Bs}
end
end L2.Lh

/-! try with several clauses, none of which names its error -/
namespace L2.Lh
open PySem PySem.Spec PyProof.Rows LamX
abbrev DHd := CT × Value × DTS
def wManyD (we : DWX) (E : DEnds) : List DHd → DWX
  | [], cls, ρ, m => we cls ρ m
  | (xt, c, ts) :: r, cls, ρ, m => ∃ b, (cls, c, b) ∈ xt ∧ (b = true → ts E ρ m) ∧ (b = false → wManyD we E r cls ρ m)
section
variable {X : Cx} {B : Bs}
inductive DHds (X : Cx) : List ExceptHandler → List DHd → Prop
  | nil : DHds X [] []
  | cons {x : Str} {c : Value} {xt : CT} {ts : DTS} {b₀ : Stmt} {suite : List Stmt} {np pos' : Pos} {hds : List ExceptHandler} {l : List DHd} (xo : ExOk X.K xt)
      (hSuite : ∀ (B' : Bs) (a : Addr) (pn : List (Addr × Obj)), DSs B' (X.suite a pn) (b₀ :: suite) ts) (hc : Names X x c) (r : DHds X hds l) :
      DHds X (.ExceptHandler (some (.Name x np)) none (b₀ :: suite) pos' :: hds) ((xt, c, ts) :: l)
def hdsT (K : PySem.W.Frag) (l : List DHd) : List (Value × (Addr → Value → Option Addr → TS)) := l.map fun h => (h.2.1, fun _ _ _ F σ H => ∃ B', upS K B' h.2.2 F σ H)
theorem DHds.ok {hds : List ExceptHandler} {l : List DHd} (h : DHds X hds l) : HdsOk X hds (hdsT X.K l) := by
  induction h with
  | nil => exact .nil
  | cons xo hs hc r ih => exact .cons hc (fun a oe cls d pn hz hd => ⟨fun pins s σ H F I ⟨B', h⟩ => (hs B' a _).run pins s σ H F I h⟩) ih
theorem DHds.wish {hds : List ExceptHandler} {l : List DHd} (h : DHds X hds l) {we : DWX} {E : DEnds} {F : Ends} {H0 : Hp} {m0 : Mem} (eo : EndsOk X.K H0 m0 E F) (stB : Step B.H B.m H0 m0) :
    ∀ cls d σ' H', upW X.K ⟨H0, m0⟩ (wManyD we E l) cls d σ' H' → wMany X.K (upW X.K B we) F (hdsT X.K l) cls d σ' H' := by
  induction h with
  | nil =>
    rintro cls d σ' H' ⟨c0, dn, ρ1, m1, p1, w⟩
    exact ⟨c0, dn, ρ1, m1, ⟨p1.env, p1.sim, stB.trans p1.st⟩, w⟩
  | @cons x c xt ts b₀ suite np pos' hds l xo hs hc r ih =>
    rintro cls d σ' H' ⟨c0, ⟨dn1, dn2⟩, ρ1, m1, p1, b, hb, hyes, hno⟩
    obtain ⟨e1, e2⟩ := xo.plain hb
    rw [e1] at dn1; rw [e2] at dn2; subst dn1 dn2
    exact ⟨b, xo _ hb, fun e a ha => ⟨⟨H', m1⟩, ρ1, m1, E, ⟨p1.env, p1.sim, Step.refl _ _⟩, hyes e, eo.next p1.st⟩, fun e => ih _ _ σ' H' ⟨_, ⟨e1.symm, e2.symm⟩, ρ1, m1, p1, hno e⟩⟩
end
end L2.Lh

/-! own __eq__, __len__ and __str__ -/
namespace L2.Lh
open PySem PySem.Spec PyProof.Rows LamX
section
variable {X : Cx} {k : Nat} {fa C : Addr} {fd : FuncData} {ps : List Str} {sp : DSp} {A : Around} {pins : List (Addr × Obj)} {σ : St} {H : Hp} {s : Shared} {Q : VK} {us : List Value} {vs : List V}
structure SubA (X : Cx) (k : Nat) (A : Around) : Prop where
  room : Room k A
  fr : A.frames = X.A.frames
/-- what an own == may be asked against -/
def othO (C : Addr) (m : Mem) (y : D) : Prop := (∃ T, tyS m y = some T) ∨ ∃ b fs, y = .ref b ∧ m b = some (.ins C fs)
def eqO (C : Addr) (sp : DSp) : DR2 := fun x y m q => ∃ a fs, x = .ref a ∧ m a = some (.ins C fs) ∧ othO C m y ∧ sp [x, y] m (fun d m' => ∃ b, d = .bl b ∧ q d m') fun _ _ => False
end
end L2.Lh

/-! isinstance against an own class, of plain things and of instances -/
namespace L2.Lh
open PySem PySem.Spec PyProof.Rows LamX
structure InsC (K : PySem.W.Frag) (D : Addr) : Prop where
  cl : Cls K D
  ha : PySem.W.findIn K (.ref D) "__class__" = some (some (.builtin "object.__class__"))
  hn : PySem.W.specialIn K (.builtin "object.__class__") "__get__" = some (some (.builtin "getset_descriptor.__get__"))
  ht : PySem.W.takesIn K (.builtin "object.__class__") = some true
  hm : PySem.W.mroIn K D (.type "object") = some true
inductive CtI (K : PySem.W.Frag) : CT → Prop
  | nil : CtI K []
  | own {C : Addr} {u : Value} {b : Bool} {r : CT} : InsC K C → PySem.W.kitOne K (.ref C) u = some b → CtI K r → CtI K ((.ref C, u, b) :: r)
  | ty {n : String} {u : Value} {b : Bool} {r : CT} : PySem.W.kitOne K (.type n) u = some b → CtI K r → CtI K ((.type n, u, b) :: r)
theorem CtI.kit {K : PySem.W.Frag} {t u : Value} {b : Bool} : ∀ {tb : CT}, CtI K tb → (t, u, b) ∈ tb → PySem.W.kitOne K t u = some b
  | _, .nil, h => by cases h
  | _, .own _ k r, h => by
    cases h with
    | head => exact k
    | tail _ h => exact r.kit h
  | _, .ty k r, h => by
    cases h with
    | head => exact k
    | tail _ h => exact r.kit h
theorem CtI.ins {K : PySem.W.Frag} {C : Addr} {u : Value} {b : Bool} : ∀ {tb : CT}, CtI K tb → (Value.ref C, u, b) ∈ tb → InsC K C
  | _, .nil, h => by cases h
  | _, .own e k r, h => by
    cases h with
    | head => exact e
    | tail _ h => exact r.ins h
  | _, .ty k r, h => by
    cases h with
    | tail _ h => exact r.ins h
end L2.Lh
namespace L2.Lh
open PySem PySem.Spec PyProof.Rows
end L2.Lh

/-! lambdas that are kept: in lists, in names -/
namespace L2.Lh
open PySem PySem.Spec PyProof.Rows LamX
section
variable {X : Cx} {pins : List (Addr × Obj)} {σ : L2.St} {H : Hp} {s : Shared}
theorem lam_make4 {c P : Addr} {params : Arguments} {body : Expr} {scope : Scope} {pos : Pos} {E : Value → Shared → Prop} {Q : Value → Shared → Prop} (I : Inv X pins σ H s) (TB : TabB X.base X.mg c P) (hcode : X.env.code = .ref c)
    (hT : TabS H P (lamN X)) (hdef : defaultsOf params X.env = ([], [])) (hfree : ∀ y ∈ scope.names, y.2 = .free → ∃ c, X.env.cells.lookup y.1 = some c)
    (h : ∀ (f c' : Addr) (pm ctv : Value) (H1 : Hp) (s' : Shared), s.heap.objs.size ≤ f → Inv X pins σ H1 s' → Made P c' (lamN X) H H1 → TabS H1 P (lamN X) → s'.heap.get? f = some (lamO X params body scope pm c' ctv) → H1 f = none → f ∉ frs X.stack → H1 c' = some (CodeO c' (lamN X)) → Q (.ref f) s') :
    wpAny (model X.prog X.w) X.A (eval (.Lambda params body scope pos) X.env) Q E s := by
  obtain ⟨ps, tabP, tri, among⟩ := hT
  have objP : s.heap.get? P = some { cls := .none, data := .fields ps } := I.hok P _ tabP
  have blt : s.heap.BuiltinsAt X.mg P := TB.bm.keeps I.bk
  have codeC := TB.code.keeps I.bk
  have globs := I.mod.glob.keeps I.bk
  have outside : ∀ f, s.heap.objs.size ≤ f → f ∉ frs X.stack := fun f hf inn => by
    cases List.mem_cons.mp (I.stkSub _ inn) with
    | inl e => have lt := I.lt; rw [← e] at lt; exact absurd (Nat.lt_of_lt_of_le lt hf) (Nat.lt_irrefl _)
    | inr e => exact I.nofs hf e
  refine PySem.W.kla_eval hdef ?_
  cases look : codeAmong pos ps.toList with
  | some cv =>
    obtain ⟨c', rfl, isCode⟩ := among pos cv look
    refine PySem.W.kla_makeFunctionHit (ps := ps) (mg := X.mg) (P := P) (c := c) (closure_ok hfree) I.ok.glob globs hcode codeC objP tri look blt fun ctv h' tk ext size => ?_
    have I1 : Inv X pins σ H { s with heap := h'.push (lamO X params body scope ((X.mg "__name__").getD .none) c' ctv), toks := tk } := I.kept fun b o e => Heap.get?_push_of_some _ (ext b o e)
    exact h _ c' _ ctv H _ size I1 .old ⟨ps, tabP, tri, among⟩ (Heap.get?_push_size _ rfl) (I.hok.fresh size) (outside _ size) isCode
  | none =>
    refine PySem.W.kla_makeFunction (ps := ps) (mg := X.mg) (P := P) (c := c) (closure_ok hfree) I.ok.glob globs hcode codeC objP tri look TB.gP blt fun c' ctv h' tk ext ge lt isRec tab' => ?_
    obtain ⟨c2, oc, vs, t, e2, hoc, hd, hv⟩ := isRec
    cases e2
    have size : s.heap.objs.size ≤ h'.objs.size := by omega
    have free : H c' = none := I.hok.fresh ge
    have I1 := inv_table (t' := tk) (h' := h'.push (lamO X params body scope ((X.mg "__name__").getD .none) c' ctv)) (more := #[rawInt pos.line, rawInt pos.col, .ref c']) I tabP
      (fun b o hb e => Heap.get?_push_of_some _ (ext b o hb e)) (Heap.get?_push_of_some _ tab') ge ⟨oc, vs, t, Heap.get?_push_of_some _ hoc, hd, hv⟩
    have listE : (ps ++ #[rawInt pos.line, rawInt pos.col, .ref c']).toList = ps.toList ++ [rawInt pos.line, rawInt pos.col, .ref c'] := by simp
    have pc : P ≠ c' := ne_of_none tabP free
    refine h _ c' _ ctv _ _ size I1 (.new tabP free) ⟨_, by rw [upd_ne pc, upd_same], by rw [listE]; exact PySem.TriplesOk_snoc _ _ _ _ tri, fun p' cv hcv => ?_⟩ (Heap.get?_push_size _ rfl) ?_ (outside _ size) upd_same
    · rw [listE] at hcv
      cases among_app _ tri hcv with
      | inr z => exact ⟨c', z, upd_same⟩
      | inl z =>
        obtain ⟨c0, e1, e2⟩ := among p' cv z
        refine ⟨c0, e1, ?_⟩
        rw [upd_ne (ne_of_none e2 free), upd_ne (fun z => by rw [z, tabP] at e2; exact codeO_ne ps (Option.some.inj e2).symm)]
        exact e2
    · have n1 : h'.objs.size ≠ c' := by omega
      have n2 : h'.objs.size ≠ P := Nat.ne_of_gt (Nat.lt_of_lt_of_le (Heap.lt_size objP) size)
      rw [upd_ne n1, upd_ne n2]
      exact I.hok.fresh size
end
/-- a lambda is made, and kept -/
def dKeep (P : Addr) (nm : Str) (L : LamSyn) (fr : List Str) (CL : List (Str × Addr)) : DTE := fun ρ m q => m P = some (.tbl nm) ∧ ∀ f, m f = none → q (.ref f) (m.set f (.lam nm L fr CL))
/-- one of the lambdas that a name may hold -/
structure LAlt where
  L : LamSyn
  tb : DWX → DTE
structure LAltOk (X : Cx) (k : Nat) (a : LAlt) : Prop where
  L : LamS X.env.scope a.L.scope
  bind : ∀ (q : Str) (cl : List (Str × Addr)) (pm cv ctv : Value), bindArgs (PySem.W.kla_fn "<lambda>" q a.L.params a.L.body a.L.scope cl pm cv ctv) ⟨[], []⟩ = pure []
  body_ : ∀ (A : Around) (outer : List Env) (s : Shared) (H : Hp) (E : XK) (f c' : Addr) (B' : Bs) (ke : Value → Mem → Prop), Room k (A.deeper (lamEnv X a.L.scope s.heap.objs.size f c')) → Takes (lamCx X A outer s H E a.L.scope f c') (upW X.K B' fun cls _ m => ke cls m) → DE B' (lamCx X A outer s H E a.L.scope f c') a.L.body (a.tb fun cls _ m => ke cls m)
end L2.Lh

/-! defs that give lambdas back -/
namespace L2.Lh
open PySem PySem.Spec PyProof.Rows LamX
section
variable {X : Cx}
/-- statements that end by a return: the slots at the end are known -/
structure PSL (X : Cx) (st : List Stmt) (t : L2.St → Hp → (V → L2.St → Hp → Prop) → Prop) : Prop where
  run : ∀ (pins : List (Addr × Obj)) (s : Shared) (σ : L2.St) (H : Hp) (R : V → L2.St → Hp → Prop), Inv X pins σ H s → t σ H R →
    wpAny (model X.prog X.w) X.A (execs st X.env) (fun fl s' => ∃ v u σ' H', fl = .ret u ∧ Inv X pins σ' H' s' ∧ RelV v u ∧ R v σ' H') X.xe s
end
/-- the frame's cells are never written again -/
structure Froz (N : List Str) (cells : List (Str × Addr)) (σ : L2.St) (H H2 : Hp) : Prop where
  inj : ∀ x y c, cells.lookup x = some c → cells.lookup y = some c → x = y
  old : ∀ b, (∀ x c, cells.lookup x = some c → b ≠ c) → H2 b = H b
  free : ∀ x c, cells.lookup x = some c → H c = none
  cel : ∀ x c, cells.lookup x = some c → ∃ o, H2 c = some (.frz o (.ext fun _ => True)) ∧ ∀ (i : Nat) (v : V), N[i]? = some x → σ[i]? = some (some v) → ∃ u, o.data = .cell (some u) ∧ RelV v u
theorem Froz.keep {N : List Str} {cells : List (Str × Addr)} {σ : L2.St} {H H2 : Hp} (z : Froz N cells σ H H2) {b : Addr} {o : HO} (h : H b = some o) : H2 b = some o := by
  rw [z.old b fun x c e q => by rw [q, z.free x c e] at h; cases h]; exact h
section
variable {P : Program} {w : World} {K : PySem.W.Frag} {mg : Str → Option Value} {base : Heap}
end
section
variable {P : Program} {w : World} {K : PySem.W.Frag} {mg : Str → Option Value} {base : Heap}
end
/-! ### over plain data -/
abbrev DSR := DEnv → Mem → (D → DEnv → Mem → Prop) → Prop
def upR (K : PySem.W.Frag) (B : Bs) (t : DSR) : L2.St → Hp → (V → L2.St → Hp → Prop) → Prop := fun σ H R => ∃ ρ m r, Pre K B ρ m σ H ∧ t ρ m r ∧
  ∀ d ρ' m' v σ' H', r d ρ' m' → Rep K H' d v → RepEnv K H' ρ' σ' → Sim K H' m' → Step H m H' m' → R v σ' H'
structure DRs (B : Bs) (X : Cx) (st : List Stmt) (t : DSR) : Prop where
  run : PSL X st (upR X.K B t)
section
variable {P : Program} {w : World} {K : PySem.W.Frag} {mg : Str → Option Value} {base : Heap}
end
end L2.Lh

/-! told(work): work is a lambda whose maker is gone -/
namespace L2.Lh
open PySem PySem.Spec PyProof.Rows LamX
open Classical in
/-- the heap without the cells -/
noncomputable def hole (H : Hp) (cl : List (Str × Addr)) : Hp := fun b => if ∃ x, cl.lookup x = some b then none else H b
open Classical in
noncomputable def back (H : Hp) (cl : List (Str × Addr)) (H2 : Hp) : Hp := fun b => if ∃ x, cl.lookup x = some b then H b else H2 b
def CelsIn (H : Hp) (cl : List (Str × Addr)) : Prop := ∀ x c, cl.lookup x = some c → ∃ o u, H c = some (.frz o (.ext fun _ => True)) ∧ o.data = .cell (some u)
section
variable {H H2 : Hp} {cl : List (Str × Addr)}
theorem hole_out {b : Addr} (h : ¬ ∃ x, cl.lookup x = some b) : hole H cl b = H b := if_neg h
theorem hole_keep (hc : CelsIn H cl) {b : Addr} {u : HO} (h : H b = some u) (hn : ∀ o, u = .frz o (.ext fun _ => True) → ∀ w, o.data ≠ .cell w) : hole H cl b = some u := by
  rw [hole_out]
  · exact h
  · rintro ⟨x, e⟩
    obtain ⟨o, w, h1, h2⟩ := hc x b e
    rw [h1] at h
    exact hn o (Option.some.inj h).symm _ h2
end
mutual
theorem Rep.hole {K : PySem.W.Frag} {H : Hp} {cl : List (Str × Addr)} (hc : CelsIn H cl) : ∀ {d : D} {v : V}, Rep K H d v → Rep K (L2.Lh.hole H cl) d v
  | _, _, .non => .non
  | _, _, .bl b => .bl b
  | _, _, .int i => .int i
  | _, _, .str x => .str x
  | _, _, .ty n => .ty n
  | _, _, .ref a => .ref a
  | _, _, .tup h r => .tup (hole_keep hc h (fun _ e => nomatch e)) (Reps.hole hc r)
  | _, _, .ftup h n r => .ftup (hole_keep hc h (fun _ e => by cases e)) n (Reps.hole hc r)
  | _, _, .rol h r => .rol (by
      rcases h with ⟨o, h⟩ | h
      · exact .inl ⟨o, hole_keep hc h (fun _ e => by cases e)⟩
      · exact .inr h) (Reps.hole hc r)
theorem Reps.hole {K : PySem.W.Frag} {H : Hp} {cl : List (Str × Addr)} (hc : CelsIn H cl) : ∀ {ds : List D} {vs : List V}, Reps K H ds vs → Reps K (L2.Lh.hole H cl) ds vs
  | _, _, .nil => .nil
  | _, _, .cons h r => .cons (Rep.hole hc h) (Reps.hole hc r)
end
/-- the memory without the lambdas whose makers are gone -/
def hide (m : Mem) : Mem := fun b => match m b with
  | some (.clo ..) => none
  | o => o
def hidden (m : Mem) (b : Addr) : Prop := ∃ nm L ds, m b = some (.clo nm L ds)
theorem hide_some {m : Mem} {b : Addr} {o : MO} (h : hide m b = some o) : m b = some o ∧ ∀ nm L ds, o ≠ .clo nm L ds := by
  unfold hide at h
  split at h
  · cases h
  · rename_i hn
    exact ⟨h, fun nm L ds e => hn nm L ds (by rw [h, e])⟩
theorem exo_true {a C : Addr} {d : Option Addr} (h : L2.exo a C d = .ext fun _ => True) : False := by
  unfold L2.exo at h
  have h2 := (congrFun (HO.ext.inj h) ({ objs := #[] } : Heap)).mpr trivial
  obtain ⟨t1, e⟩ := h2
  simp [Heap.get?] at e
theorem exd_true {dx : Addr} {fs : List (Str × V)} (h : L2.exd dx fs = .ext fun _ => True) : False := by
  unfold L2.exd at h
  have h2 := (congrFun (HO.ext.inj h) ({ objs := #[] } : Heap)).mpr trivial
  obtain ⟨mA, hns, _⟩ := h2
  obtain ⟨od, e, _⟩ := lookIn_ns hns
  simp [Heap.get?] at e
theorem RepO.hole {K : PySem.W.Frag} {H : Hp} {cl : List (Str × Addr)} (hc : CelsIn H cl) {a : Addr} {o : MO} (r : RepO K H a o) (hn : ∀ nm L ds, o ≠ .clo nm L ds) : RepO K (L2.Lh.hole H cl) a o := by
  cases o with
  | lst ds => obtain ⟨vs, e, q⟩ := r; exact ⟨vs, hole_keep hc e (fun _ e => nomatch e), q.hole hc⟩
  | ins C fs => obtain ⟨dx, fv, e, q⟩ := r; exact ⟨dx, fv, hole_keep hc e (fun _ e => nomatch e), Paired.mapP q fun _ _ q => ⟨q.1, q.2.hole hc⟩⟩
  | exc cls => exact hole_keep hc r (fun _ e => nomatch e)
  | xd fs => obtain ⟨fv, e, q⟩ := r; exact ⟨fv, hole_keep hc e (fun _ e => nomatch e), Paired.mapP q fun _ _ q => ⟨q.1, q.2.hole hc⟩⟩
  | dK kvs => obtain ⟨kv, e, q⟩ := r; exact ⟨kv, hole_keep hc e (fun _ e => nomatch e), Paired.mapP q fun _ _ q => ⟨q.1, q.2.hole hc⟩⟩
  | dN kvs =>
    obtain ⟨es, ep, xs, e, q⟩ := r
    exact ⟨es, ep, xs, hole_keep hc e (fun _ e => nomatch e), ⟨q.ent, q.nd, q.sz, q.sys, Paired.mapP q.rel fun _ _ ⟨e, ⟨d, r, e2, z⟩, v, r2, rv⟩ => ⟨e, ⟨d, r.hole hc, e2, z⟩, v, r2.hole hc, rv⟩⟩⟩
  | dR kvs es ep ds =>
    obtain ⟨e, xs, q, r⟩ := r
    exact ⟨hole_keep hc e (fun _ e => nomatch e), xs, ⟨q.ent, q.nd, q.sz, q.sys, Paired.mapP q.rel fun _ _ ⟨e, ⟨d, r, e2, z⟩, v, r2, rv⟩ => ⟨e, ⟨d, r.hole hc, e2, z⟩, v, r2.hole hc, rv⟩⟩, r.hole hc⟩
  | dT kds =>
    obtain ⟨es, ep, xs, e, q, r⟩ := r
    exact ⟨es, ep, xs, hole_keep hc e (fun _ e => nomatch e), ⟨q.ent, q.nd, q.sz, q.sys, Paired.mapP q.rel fun _ _ ⟨e, ⟨d, r, e2, z⟩, v, r2, rv⟩ => ⟨e, ⟨d, r.hole hc, e2, z⟩, v, r2.hole hc, rv⟩⟩, r.hole hc⟩
  | tbl q =>
    obtain ⟨ps, h1, h2, h3⟩ := r
    exact ⟨ps, hole_keep hc h1 (fun _ e => nomatch e), h2, fun pos cv h => let ⟨c, e1, e2⟩ := h3 pos cv h; ⟨c, e1, hole_keep hc e2 (fun _ e => by unfold CodeO at e; cases e)⟩⟩
  | dF kvs => obtain ⟨od, kv, e, q⟩ := r; exact ⟨od, kv, hole_keep hc e (fun _ e => by cases e), Paired.mapP q fun _ _ q => ⟨q.1, q.2.hole hc⟩⟩
  | lam nm L fr CL =>
    obtain ⟨⟨pm, ctv, c', e1, e2⟩, r⟩ := r
    exact ⟨⟨pm, ctv, c', hole_keep hc e1 (fun o e w z => by cases e; cases z), hole_keep hc e2 (fun _ e => by unfold CodeO at e; cases e)⟩, r⟩
  | clo nm L ds => exact absurd rfl (hn nm L ds)
  | own C f d =>
    obtain ⟨oe, od, dx, y, e1, e2, e3⟩ := r
    exact ⟨oe, od, dx, y, hole_keep hc e1 (fun o e w z => exo_true (HO.frz.inj e).2), hole_keep hc e2 (fun o e w z => exd_true (HO.frz.inj e).2), e3.hole hc⟩
theorem Sim.hole {K : PySem.W.Frag} {H : Hp} {cl : List (Str × Addr)} {m : Mem} (hc : CelsIn H cl) (s : Sim K H m) : Sim K (L2.Lh.hole H cl) (hide m) := fun a o h =>
  let ⟨h1, h2⟩ := hide_some h; (s a o h1).hole hc h2
end L2.Lh

namespace L2.Lh
open PySem PySem.Spec PyProof.Rows LamX
abbrev cloEnv (nm : Str) (scope : Scope) (L f c' : Addr) (cl : List (Str × Addr)) : Env := PySem.W.envX nm scope L f (.ref c') cl
/-- the context of the body of a lambda whose maker is gone -/
def cloCx (P : Program) (w : World) (K : PySem.W.Frag) (mg : Str → Option Value) (base : Heap) (N : List Str) (nm : Str) (A : Around) (outer : List Env) (s : Shared) (H : Hp) (E : XK) (scope : Scope) (cl : List (Str × Addr)) (f c' : Addr) : Cx where
  prog := P
  w := w
  K := K
  mg := mg
  base := base
  A := A.deeper (cloEnv nm scope s.heap.objs.size f c' cl)
  N := N
  s_0 := s
  H_0 := H
  env := cloEnv nm scope s.heap.objs.size f c' cl
  outer := outer
  stack := cloEnv nm scope s.heap.objs.size f c' cl :: outer
  ex := []
  fn := fun _ => false
  calm := true
  pn := []
  xe := fun e s' => wpAny (model P w) (A.deeper (cloEnv nm scope s.heap.objs.size f c' cl)) (leaving (cloEnv nm scope s.heap.objs.size f c' cl) e) (fun _ s'' => L2.CX P w outer H s E e s'') (fun e' s'' => L2.CX P w outer H s E e' s'') s'
/-- the scope of a lambda by itself -/
structure CloS (scope : Scope) : Prop where
  kind : scope.kind = .function
  co : scope.isCoroutine = false
  gen : scope.isGenerator = false
  own : ∀ y ∈ scope.names, y.2 ≠ .local ∧ y.2 ≠ .cell
section
variable {P : Program} {w : World} {K : PySem.W.Frag} {mg : Str → Option Value} {base : Heap}
end
/-- a kept lambda of a maker that is gone -/
structure CAlt where
  nm : Str
  N : List Str
  L : LamSyn
  tb : DWX → DTE
structure CAltOk (P : Program) (w : World) (K : PySem.W.Frag) (mg : Str → Option Value) (base : Heap) (k : Nat) (a : CAlt) : Prop where
  L : CloS a.L.scope
  bind : ∀ (q : Str) (cl : List (Str × Addr)) (pm cv ctv : Value), bindArgs (PySem.W.kla_fn "<lambda>" q a.L.params a.L.body a.L.scope cl pm cv ctv) ⟨[], []⟩ = pure []
  body_ : ∀ (A : Around) (outer : List Env) (s : Shared) (H : Hp) (E : XK) (cl : List (Str × Addr)) (f c' : Addr) (B' : Bs) (ke : Value → Mem → Prop), Room k (A.deeper (cloEnv a.nm a.L.scope s.heap.objs.size f c' cl)) →
    Takes (cloCx P w K mg base a.N a.nm A outer s H E a.L.scope cl f c') (upW K B' fun cls _ m => ke cls m) → DE B' (cloCx P w K mg base a.N a.nm A outer s H E a.L.scope cl f c') a.L.body (a.tb fun cls _ m => ke cls m)
theorem cels_lookup {K : PySem.W.Frag} {H : Hp} {ds : List (Str × D)} {cl : List (Str × Addr)} (h : CelsAt K H ds cl) : ∀ {x : Str} {c : Addr}, cl.lookup x = some c → ∃ d, ds.lookup x = some d ∧ CelAt K H c d := by
  unfold CelsAt at h
  induction h with
  | nil => intro x c e; cases e
  | @cons p q ds cl r t ih =>
    intro x c e
    obtain ⟨n1, d⟩ := p
    obtain ⟨n2, c2⟩ := q
    obtain ⟨e1, e2⟩ := r
    have e1 : n1 = n2 := e1
    subst e1
    rw [List.lookup_cons] at e ⊢
    cases hb : x == n1 with
    | true => rw [hb] at e; cases e; exact ⟨d, rfl, e2⟩
    | false => rw [hb] at e; exact ih e
end L2.Lh

namespace L2.Lh
open PySem PySem.Spec PyProof.Rows LamX
theorem CelsAt.isIn {K : PySem.W.Frag} {H : Hp} {ds : List (Str × D)} {cl : List (Str × Addr)} (h : CelsAt K H ds cl) : CelsIn H cl := fun x c e => by
  obtain ⟨d, _, o, u, v, h1, h2, _⟩ := cels_lookup h e
  exact ⟨o, u, h1, h2⟩
theorem RepEnv.hole {K : PySem.W.Frag} {H : Hp} {cl : List (Str × Addr)} (hc : CelsIn H cl) {ρ : DEnv} {σ : L2.St} (h : RepEnv K H ρ σ) : RepEnv K (L2.Lh.hole H cl) ρ σ := Paired.mapP h fun a b q => by
  cases a with
  | none => trivial
  | some d => cases b with
    | none => exact q
    | some v => exact Rep.hole hc q
section
variable {P : Program} {w : World} {K : PySem.W.Frag} {mg : Str → Option Value} {base : Heap}
end
end L2.Lh

/-! repr of data that may hold the empty dict -/
namespace L2.Lh
open PySem PySem.Spec PyProof.Rows LamX
mutual
def pyY (f : Addr → Option PyData) : D → Option PyData
  | .non => some .none
  | .bl b => some (.bool b)
  | .int i => some (.int i)
  | .str x => some (.str x)
  | .ty _ => none
  | .ref a => f a
  | .tup xs => (pyYs f xs).map .tuple
  | .ftup xs => (pyYs f xs).map .tuple
  | .rol xs => (pyYs f xs).map .list
def pyYs (f : Addr → Option PyData) : List D → Option (List PyData)
  | [] => some []
  | d :: ds => match pyY f d, pyYs f ds with
    | some p, some ps => some (p :: ps)
    | _, _ => none
end
section
variable {X : Cx} {pins : List (Addr × Obj)} {σ : L2.St} {H : Hp} {s : Shared}
/-- what is read, and how it is shown within -/
def GK (X : Cx) (s : Shared) (u : Value) (p : PyData) : Prop := ∃ as, Reads s.heap u p as ∧
  (p.showable = true → p.shown.length ≤ sizeLine → ∃ bs, ReadAtMost s.heap p.depth bs ∧ ReprK X.prog X.w bs s.heap p.depth u p.shown)
def GKs (X : Cx) (s : Shared) (us : List Value) (ps : List PyData) : Prop := ∃ as, ReadsAll s.heap us ps as ∧
  (PyData.showableAll ps = true → (∀ t ∈ PyData.shownAll ps, t.length ≤ sizeLine) → ∃ bs, ReadAtMost s.heap (PyData.depthAll ps) bs ∧ ReprAllK X.prog X.w bs s.heap (PyData.depthAll ps) us (PyData.shownAll ps))
theorem GKs.nil : GKs X s [] [] := ⟨_, .nil, fun _ _ => ⟨[], (fun _ h => nomatch h), by simp only [PyData.shownAll]; exact .nil⟩⟩
theorem GKs.cons {u : Value} {us : List Value} {p : PyData} {ps : List PyData} (h : GK X s u p) (hs : GKs X s us ps) : GKs X s (u :: us) (p :: ps) := by
  obtain ⟨as, r, k⟩ := h
  obtain ⟨bs, rs, ks⟩ := hs
  refine ⟨_, .cons r rs, fun h1 h2 => ?_⟩
  have h1' : p.showable = true ∧ PyData.showableAll ps = true := by simpa [PyData.showableAll] using h1
  obtain ⟨b1, hb1, k1⟩ := k h1'.1 (h2 _ (by simp only [PyData.shownAll]; exact List.mem_cons_self ..))
  obtain ⟨b2, hb2, k2⟩ := ks h1'.2 (fun t ht => h2 t (by simp only [PyData.shownAll]; exact List.mem_cons_of_mem _ ht))
  refine ⟨b1 ++ b2, ?_, ?_⟩
  · simp only [PyData.depthAll]
    exact (hb1.mono (by omega)).append (hb2.mono (by omega))
  · simp only [PyData.shownAll, PyData.depthAll]
    exact .cons ((k1.more fun b hb => List.mem_append_left _ hb).level_le (by omega)) (k2.more_le (fun b hb => List.mem_append_right _ hb) (by omega))
theorem GK.tuple {a : Addr} {o : Obj} {its : Array Value} {n : Nat} {ps : List PyData} (ho : s.heap.get? a = some o) (hc : o.cls = .type "tuple") (hd : o.data = .seq its n) (h : GKs X s its.toList ps) : GK X s (.ref a) (.tuple ps) := by
  obtain ⟨as, r, k⟩ := h
  have rd : Reads s.heap (.ref a) (.tuple ps) _ := .tuple ho hc hd r
  refine ⟨_, rd, fun h1 h2 => ?_⟩
  have hz' : (tupleText (PyData.shownAll ps)).length ≤ sizeLine := by simpa only [PyData.shown] using h2
  obtain ⟨bs, hb, hk⟩ := k (by simpa [PyData.showable] using h1) (fun t ht => Nat.le_trans (tupleText_mem_le ht) hz')
  have hna : a ∉ bs := not_mem_of_deeper rd (by simp only [PyData.depth]; omega) hb
  refine ⟨a :: bs, ReadAtMost.cons rd (by simp only [PyData.depth]; omega) hb, ?_⟩
  simp only [PyData.depth, PyData.shown]
  exact ReprK.tuple ho hc hd hna hk
theorem GK.list {a : Addr} {o : Obj} {its : Array Value} {n : Nat} {ps : List PyData} (ho : s.heap.get? a = some o) (hc : o.cls = .type "list") (hd : o.data = .seq its n) (h : GKs X s its.toList ps) : GK X s (.ref a) (.list ps) := by
  obtain ⟨as, r, k⟩ := h
  have rd : Reads s.heap (.ref a) (.list ps) _ := .list ho hc hd r
  refine ⟨_, rd, fun h1 h2 => ?_⟩
  have hz' : (listText (PyData.shownAll ps)).length ≤ sizeLine := by simpa only [PyData.shown] using h2
  obtain ⟨bs, hb, hk⟩ := k (by simpa [PyData.showable] using h1) (fun t ht => Nat.le_trans (listText_mem_le ht) hz')
  have hna : a ∉ bs := not_mem_of_deeper rd (by simp only [PyData.depth]; omega) hb
  refine ⟨a :: bs, ReadAtMost.cons rd (by simp only [PyData.depth]; omega) hb, ?_⟩
  simp only [PyData.depth, PyData.shown]
  obtain ⟨l⟩ := its
  cases l with
  | nil =>
    have r' : ReadsAll s.heap [] ps _ := r
    cases r'
    simp only [PyData.shownAll, listText_nil]
    exact ReprK.listEmpty ho hc hd
  | cons x l => exact ReprK.list ho hc hd hna (by simpa using hk.length_eq) (fun i y e => hk.item i y (by simpa using e))
mutual
theorem pyY_ok (I : Inv X pins σ H s) {f : Addr → Option PyData} (hf : ∀ a p, f a = some p → GK X s (.ref a) p) : ∀ {d : D} {v : V} {p : PyData} {u : Value}, Rep X.K H d v → pyY f d = some p → RelV v u → GK X s u p
  | _, _, _, _, .non, e, r => by cases e; cases r; exact ⟨_, Reads.none, fun _ _ => ⟨[], (fun _ h => nomatch h), by simp only [PyData.shown]; exact .of_is ReprIs.none _ _ _⟩⟩
  | _, _, _, _, .bl b, e, r => by cases e; cases r; exact ⟨_, Reads.bool b, fun _ _ => ⟨[], (fun _ h => nomatch h), by simp only [PyData.shown]; exact .of_is (ReprIs.bool b) _ _ _⟩⟩
  | _, _, _, _, .int b, e, r => by cases e; obtain ⟨t, rfl⟩ := r; exact ⟨_, Reads.int b t, fun hs _ => ⟨[], (fun _ h => nomatch h), by simp only [PyData.shown]; exact .of_is (ReprIs.int t (by simpa [PyData.showable] using hs)) _ _ _⟩⟩
  | _, _, _, _, .str b, e, r => by cases e; obtain ⟨t, rfl⟩ := r; exact ⟨_, Reads.str b t, fun _ hz => ⟨[], (fun _ h => nomatch h), by simp only [PyData.shown]; exact .of_is (ReprIs.str b t (by simpa only [PyData.shown] using hz)) _ _ _⟩⟩
  | _, _, _, _, .ty b, e, r => by cases e
  | _, _, _, _, .ref a, e, r => by cases r; exact hf a _ e
  | .tup xs, _, _, _, .tup h rs, e, r => by
    unfold pyY at e
    cases q : pyYs f xs with
    | none => rw [q] at e; cases e
    | some ps =>
      rw [q] at e; cases e; cases r
      obtain ⟨its, rv, ⟨o, ho, hc, n, hd⟩, _⟩ := I.tuple (SqT.of h)
      exact GK.tuple ho hc hd (by simpa using pyYs_ok I hf rs q rv)
  | .ftup xs, _, _, _, .ftup h _ rs, e, r => by
    unfold pyY at e
    cases q : pyYs f xs with
    | none => rw [q] at e; cases e
    | some ps =>
      rw [q] at e; cases e; cases r
      obtain ⟨its, rv, ⟨o, ho, hc, n, hd⟩, _⟩ := I.tuple (.inl (.inr ⟨_, h⟩))
      exact GK.tuple ho hc hd (by simpa using pyYs_ok I hf rs q rv)
  | .rol xs, _, _, _, .rol h rs, e, r => by
    unfold pyY at e
    cases q : pyYs f xs with
    | none => rw [q] at e; cases e
    | some ps =>
      rw [q] at e; cases e; cases r
      obtain ⟨its, rv, ⟨o, k, ho, hc, _, hd⟩, _⟩ := I.list (rol_sq h)
      exact GK.list ho hc hd (by simpa using pyYs_ok I hf rs q rv)
theorem pyYs_ok (I : Inv X pins σ H s) {f : Addr → Option PyData} (hf : ∀ a p, f a = some p → GK X s (.ref a) p) : ∀ {ds : List D} {vs : List V} {ps : List PyData} {us : List Value}, Reps X.K H ds vs → pyYs f ds = some ps → Vals vs us → GKs X s us ps
  | _, _, _, _, .nil, e, r => by cases e; cases r; exact .nil
  | d :: ds, _, _, _, .cons h rs, e, r => by
    unfold pyYs at e
    cases q1 : pyY f d with
    | none => rw [q1] at e; cases e
    | some p =>
      cases q2 : pyYs f ds with
      | none => rw [q1, q2] at e; cases e
      | some ps =>
        rw [q1, q2] at e; cases e
        cases r with
        | cons r1 r2 => exact .cons (pyY_ok I hf h q1 r1) (pyYs_ok I hf rs q2 r2)
end
end
end L2.Lh

/-! texts: slices -/
namespace L2.Lh
open PySem PySem.Spec PyProof.Rows LamX
section
variable {X : Cx} {B : Bs}
end
end L2.Lh

/-! code that runs while an exception is handled, or not: what ends a walk -/
namespace L2.Lh
open PySem PySem.Spec PyProof.Rows LamX HotX L2H
/-- nothing is handled, or an exception that stands in the heap, its context None, elsewhere than at it -/
def CoolAt (A : Around) (it : Addr) (h : Heap) : Prop := A.handled = none ∨ ∃ p : Addr × Obj, Hot1 A p ∧ h.get? p.1 = some p.2 ∧ p.1 ≠ it
section
variable {prog : Program} {w : World} {A : Around} {E : Value → Shared → Prop} {s : Shared}
theorem CoolAt.upd {it : Addr} {h h' : Heap} (c : CoolAt A it h) (k : ∀ b o, b ≠ it → h.get? b = some o → h'.get? b = some o) : CoolAt A it h' := c.imp id fun ⟨p, h1, h2, h3⟩ => ⟨p, h1, k _ _ h3 h2, h3⟩
theorem CoolAt.in1 {it : Addr} {h : Heap} (c : CoolAt A it h) : CoolAt A.in1 it h := c
end

/-! ### contexts -/
/-- the handled exception was there at the entry -/
structure OldPin (X : Cx) (p : Addr × Obj) : Prop where
  get : X.s_0.heap.get? p.1 = some p.2
  free : X.H_0 p.1 = none
  nofs : p.1 ∉ X.fs
  noex : p.1 ∉ X.ex
  nocell : ∀ v, p.2.data ≠ .cell v
/-- nothing is handled here, or an exception that is known -/
def Cool (X : Cx) : Prop := X.calm = true ∨ ∃ p : Addr × Obj, Hot1 X.A p ∧ (p ∈ X.pn ∨ OldPin X p)
section
variable {X : Cx} {pins : List (Addr × Obj)} {σ : L2.St} {H : Hp} {s : Shared}
theorem Cool.calm (h : X.calm = true) : Cool X := .inl h
theorem Cool.hot (h : HotC X) : Cool X := let ⟨p, a, b⟩ := h; .inr ⟨p, a, .inl b⟩
theorem OldPin.at (I : Inv X pins σ H s) {p : Addr × Obj} (o : OldPin X p) : s.heap.get? p.1 = some p.2 ∧ H p.1 = none ∧ p.1 ≠ X.env.locals ∧ p.1 ∉ X.fs ∧ ∀ b, FpOk X pins H b → p.1 ≠ b := by
  have lt : p.1 < X.s_0.heap.objs.size := Heap.lt_size o.get
  refine ⟨I.base.keep _ _ o.get o.free o.nofs o.noex, I.base.free _ _ o.get o.free o.noex, Nat.ne_of_lt (Nat.lt_of_lt_of_le lt I.ok.above), o.nofs, fun b hb z => ?_⟩
  rcases hb.2.2.2.1 with h | h
  · exact o.noex (z ▸ h)
  · exact absurd (Nat.lt_of_lt_of_le lt h) (by rw [z]; exact Nat.lt_irrefl _)
/-- what is known of it in a state -/
theorem Cool.at (c : Cool X) (I : Inv X pins σ H s) : X.A.handled = none ∨ ∃ p : Addr × Obj, Hot1 X.A p ∧ s.heap.get? p.1 = some p.2 ∧ H p.1 = none ∧ p.1 ≠ X.env.locals ∧ p.1 ∉ X.fs ∧ (∀ v, p.2.data ≠ .cell v) ∧ ∀ b, FpOk X pins H b → p.1 ≠ b := by
  rcases c with h | ⟨p, h1, h2 | h2⟩
  · exact .inl (I.ok.hd h)
  · have P := I.pin p (List.mem_append_left _ h2)
    exact .inr ⟨p, h1, P.1, P.2.1, P.2.2.1, P.2.2.2.1, P.2.2.2.2, fun b hb => hb.2.2.2.2.2 p (List.mem_append_left _ h2)⟩
  · obtain ⟨g, f, l, n, b⟩ := h2.at I
    exact .inr ⟨p, h1, g, f, l, n, h2.nocell, b⟩
/-- a block within -/
theorem Cool.blk (c : Cool X) (I : Inv X pins σ H s) {scope : Scope} {cenv : Env} {fp : List Addr} (hfp : ∀ b ∈ fp, FpOk X pins H b) : Cool (X.blk s H scope cenv fp) := by
  rcases c with h | c
  · exact .inl h
  · rcases Cool.at (.inr c) I with h0 | ⟨p, h1, h2, h3, h4, h5, h6, h7⟩
    · obtain ⟨p, ⟨e, _⟩, _⟩ := c
      rw [h0] at e; cases e
    · exact .inr ⟨p, h1, .inr ⟨h2, h3, fun hm => (List.mem_cons.mp (I.stkSub p.1 hm)).elim h4 h5, fun hm => h7 _ (hfp _ hm) rfl, h6⟩⟩
end

/-! ### walks -/
structure TurnC (P : Program) (w : World) (K : PySem.W.Frag) (tg : Expr) (J : It) (fp : List Addr) (it : Addr) (tn : Nat → Heap → Prop) : Prop where
  mem : it ∈ fp
  obj : ∀ i h, tn i h → ∀ b ∈ fp, ∃ o, h.get? b = some o ∧ ∀ v, o.data ≠ .cell v
  keep : ∀ i h h', tn i h → (∀ b ∈ fp, ∀ o, h.get? b = some o → h'.get? b = some o) → tn i h'
  item : ∀ (X : Cx), X.prog = P → X.w = w → X.K = K → Cool X → ∀ (i : Nat) (pins : List (Addr × Obj)) (s : Shared) (σ : L2.St) (H : Hp) (E : Value → Shared → Prop), Inv X pins σ H s → (∀ b ∈ fp, FpOk X pins H b) → tn i s.heap → J.go i H →
    wpAny (model P w) X.A (pyNext (.ref it)) (fun r s1 => ∃ u, r = some u ∧
      wpAny (model P w) X.A (letOwnedTupleGo tg (.ref it) u) (fun _ s2 => ∃ x H', Inv X pins σ H' s2 ∧ RelV x u ∧ J.yld i H x H' ∧ tn (i + 1) s2.heap ∧ ∀ b ∈ fp, H' b = none) E s1) E s
  done : ∀ (X : Cx), X.prog = P → X.w = w → X.K = K → Cool X → ∀ (i : Nat) (pins : List (Addr × Obj)) (s : Shared) (σ : L2.St) (H : Hp) (E : Value → Shared → Prop), Inv X pins σ H s → (∀ b ∈ fp, FpOk X pins H b) → tn i s.heap → J.stop i H →
    wpAny (model P w) X.A (pyNext (.ref it)) (fun r s1 => r = none ∧ Inv X pins σ H s1) E s
end L2.Lh

/-! walks while an exception is handled, or not: enumerate, for, comprehensions, targets -/
namespace L2.Lh
open PySem PySem.Spec PyProof.Rows LamX HotX L2H
section
variable {prog : Program} {w : World} {A : Around} {E : Value → Shared → Prop} {s : Shared}
/-- what holds of the handled exception through a walk: gp its address, if any -/
structure CoolW (A : Around) (it : Addr) (gp : List Addr) (G : Heap → Prop) : Prop where
  keep : ∀ h h', G h → (∀ b ∈ gp, ∀ o, h.get? b = some o → h'.get? b = some o) → G h'
  ne : ∀ b ∈ gp, b ≠ it
  cool : ∀ h, G h → CoolAt A it h
theorem CoolW.none {it : Addr} (h : A.handled = none) : CoolW A it [] fun _ => True := ⟨(fun _ _ _ _ => trivial), (fun _ z => by cases z), (fun _ _ => .inl h)⟩
theorem CoolW.some {it : Addr} {p : Addr × Obj} (h : Hot1 A p) (n : p.1 ≠ it) : CoolW A it [p.1] fun h => h.get? p.1 = some p.2 :=
  ⟨fun _ _ g k => k _ List.mem_cons_self _ g, fun b hb => by rw [List.mem_singleton] at hb; rw [hb]; exact n, fun _ g => .inr ⟨p, h, g, n⟩⟩
end
/-! ### what is walked -/
def PIEC (X : Cx) (pins : List (Addr × Obj)) (σ : L2.St) (tg : Expr) (R : It → Hp → Prop) (itv : Value) (s2 : Shared) : Prop :=
  ∃ (it : Addr) (fp : List Addr) (tn : Nat → Heap → Prop) (J : It) (H' : Hp), itv = .ref it ∧ Inv X pins σ H' s2 ∧ TurnC X.prog X.w X.K tg J fp it tn ∧ tn 0 s2.heap ∧ (∀ b ∈ fp, FpOk X pins H' b) ∧
    (∀ (A : Around) (i : Nat) (s : Shared) (Q : Value → Shared → Prop) (E : Value → Shared → Prop), tn i s.heap → Q (.ref it) s → wpAny (model X.prog X.w) A (pyIter (.ref it)) Q E s) ∧ R J H'
structure PIC (X : Cx) (tg iter : Expr) (wi : TI) : Prop where
  run : ∀ (pins : List (Addr × Obj)) (s : Shared) (σ : L2.St) (H : Hp) (R : It → Hp → Prop), Inv X pins σ H s → wi σ H R →
    wpAny (model X.prog X.w) X.A (eval iter X.env) (fun v s1 => wpAny (model X.prog X.w) X.A (pyIter v) (PIEC X pins σ tg R) X.xe s1) X.xe s
section
variable {X : Cx} {B : Bs} {tg : Expr}
end

/-! ### for -/
section
variable {X : Cx} {tg : Expr}
/-! ### comprehensions -/
end
section
variable {X : Cx} {B : Bs} {tg : Expr}
end
end L2.Lh

/-! built-ins that walk, and targets, while an exception is handled, or not -/
namespace L2.Lh
open PySem PySem.Spec PyProof.Rows LamX HotX L2H
def CoolNow (A : Around) (h : Heap) : Prop := A.handled = none ∨ ∃ p : Addr × Obj, Hot1 A p ∧ h.get? p.1 = some p.2
theorem Cool.now {X : Cx} {pins : List (Addr × Obj)} {σ : L2.St} {H : Hp} {s : Shared} (c : Cool X) (I : Inv X pins σ H s) : CoolNow X.A s.heap := (c.at I).imp id fun ⟨p, h1, h2, _⟩ => ⟨p, h1, h2⟩
section
variable {prog : Program} {w : World} {A : Around} {E : Value → Shared → Prop} {s : Shared}
theorem CoolNow.keeps {h h' : Heap} (c : CoolNow A h) (k : ∀ b o, h.get? b = some o → h'.get? b = some o) : CoolNow A h' := c.imp id fun ⟨p, h1, h2⟩ => ⟨p, h1, k _ _ h2⟩
theorem CoolNow.walk {h : Heap} (c : CoolNow A h) {it : Addr} (hi : h.objs.size ≤ it) : ∃ gp G, CoolW A it gp G ∧ G h ∧ ∀ b ∈ gp, b < h.objs.size := by
  rcases c with h0 | ⟨p, h1, h2⟩
  · exact ⟨_, _, CoolW.none h0, trivial, fun b z => by cases z⟩
  · have lt := Heap.lt_size h2
    exact ⟨_, _, CoolW.some h1 (Nat.ne_of_lt (Nat.lt_of_lt_of_le lt hi)), h2, fun b hb => by rw [List.mem_singleton] at hb; rw [hb]; exact lt⟩
end
section
variable {X : Cx}
end

/-! ### list(range), tuple(range) -/
section
variable {prog : Program} {w : World} {A : Around} {E : Value → Shared → Prop} {s : Shared}
theorem CoolNow.fresh {h : Heap} (c : CoolNow A h) (ob : Obj) : A.handled = none ∨ ∃ p : Addr × Obj, Hot1 A p ∧ (h.push ob).get? p.1 = some p.2 ∧ p.1 ≠ h.objs.size :=
  c.imp id fun ⟨p, h1, h2⟩ => ⟨p, h1, Heap.get?_push_of_some _ h2, Nat.ne_of_lt (Heap.lt_size h2)⟩
end

/-! ### a, b = t -/
section
variable {prog : Program} {w : World} {A : Around} {E : Value → Shared → Prop} {s : Shared}
end
section
variable {X : Cx} {B : Bs} {pos : Pos} {vs : List Nat}
end
end L2.Lh

/-! defs that run while an exception is handled, or not: one derivation, both promises -/
namespace L2.Lh
open PySem PySem.Spec PyProof.Rows LamX HotX L2H
theorem _root_.L2H.RoomH.units {k : Nat} {A : Around} (r : RoomH k A) : A.units + 64 < cLine := by have := r.un; omega
structure FnC (P : Program) (w : World) (K : PySem.W.Frag) (mg : Str → Option Value) (base : Heap) (k : Nat) (f : Addr) (fd : FuncData) (ps : List Str) (sp : DSp) : Prop where
  cold : FnD P w K mg base k f fd ps sp
  hot : FnH P w K mg base (L2.CX P w) k f fd ps (upSp K sp)
section
variable {P : Program} {w : World} {K : PySem.W.Frag} {mg : Str → Option Value} {base : Heap}
end
structure DefC (P : Program) (w : World) (K : PySem.W.Frag) (mg : Str → Option Value) (base : Heap) (k : Nat) (x : Str) (ps : List Str) (sp : DSp) where
  f : Addr
  fd : FuncData
  ok : FnC P w K mg base k f fd ps sp
  g : mg x = some (.ref f)
  kp : PySem.W.keepIn K (.ref f) = true
  b : Binds K fd ps []
def DefC.at {P : Program} {w : World} {K : PySem.W.Frag} {mg : Str → Option Value} {base : Heap} {k : Nat} {x : Str} {ps : List Str} {sp : DSp} (d : DefC P w K mg base k x ps sp) : DefAt P w K mg base k x ps sp := ⟨d.f, d.fd, d.ok.cold, d.g, d.kp, d.b⟩
structure MethC (P : Program) (w : World) (K : PySem.W.Frag) (mg : Str → Option Value) (base : Heap) (k : Nat) (C : Addr) (mn : Str) (ps : List Str) (sp : DSp) where
  f : Addr
  fd : FuncData
  ok : FnC P w K mg base k f fd ps sp
  me : Meth K C mn f
  b : Binds K fd ps []
def MethC.at {P : Program} {w : World} {K : PySem.W.Frag} {mg : Str → Option Value} {base : Heap} {k : Nat} {C : Addr} {mn : Str} {ps : List Str} {sp : DSp} (d : MethC P w K mg base k C mn ps sp) : MethAt P w K mg base k C mn ps sp := ⟨d.f, d.fd, d.ok.cold, d.me, d.b⟩
section
variable {X : Cx} {B : Bs} {k : Nat} {f C : Addr} {fd : FuncData} {ps : List Str} {sp : DSp} {we : DWX} {x mn : Str} {p pos apos : Pos} {e o : Expr} {es : List Expr} {t : DTA} {to : DTE}
end
end L2.Lh
namespace L2.Lh
open PySem PySem.Spec PyProof.Rows LamX HotX L2H
/-! ### try: n = d[k], except KeyError: a suite that calls -/
section
variable {X : Cx} {B : Bs}
end
end L2.Lh

/-! errors of a class whose own __init__ keeps one field -/
namespace L2.Lh
open PySem PySem.Spec PyProof.Rows LamX HotX L2H
/-- the mark of an error of the class at C whose fields stand at dx -/
def xvI (C dx : Addr) : Value := .int (.ofNat C) dx
@[simp] theorem xvC_I {C dx : Addr} : xvC (xvI C dx) = .ref C := rfl
@[simp] theorem xvD_I {C dx : Addr} : xvD (xvI C dx) = some dx := rfl
@[simp] theorem xvC_ref {C : Addr} : xvC (.ref C) = .ref C := rfl
@[simp] theorem xvD_ref {C : Addr} : xvD (.ref C) = none := rfl
@[simp] theorem xvC_type {C : String} : xvC (.type C) = .type C := rfl
@[simp] theorem xvD_type {C : String} : xvD (.type C) = none := rfl
/-- what such an __init__ does -/
def spInit (C : Addr) (f : Str) : Sp := fun vs H Q _ => ∃ a y, vs = [.ref a, y] ∧ H a = some (exo a C none) ∧ ∀ dx, H dx = none → dx ≠ a → Q .non (upd (upd H dx (exd dx [(f, y)])) a (exo a C (some dx)))
structure InitAt (P : Program) (w : World) (K : PySem.W.Frag) (mg : Str → Option Value) (base : Heap) (k : Nat) (C : Addr) (p f : Str) where
  a : Addr
  fd : FuncData
  cold : FnOk P w K mg base (L2.CX P w) k a fd ["self", p] (spInit C f)
  hot : FnH P w K mg base (L2.CX P w) k a fd ["self", p] (spInit C f)
  fi : PySem.W.findIn K (.ref C) "__init__" = some (some (.ref a))
  ty : PySem.W.typeIn K (.ref a) = some (.type "function")
  b : Binds K fd ["self", p] []
  ox : OexC K C
section
variable {P : Program} {w : World} {K : PySem.W.Frag} {mg : Str → Option Value} {base : Heap}
end
section
variable {X : Cx} {B : Bs} {k : Nat} {C : Addr} {p f : Str} {we : DWX} {x : Str} {e : Expr} {es : List Expr} {t : DTA} {p1 pos pos2 cpos : Pos} {j : Nat}
end
/-! ### try: return d[k], except KeyError: .. -/
section
variable {X : Cx} {B : Bs}
end
end L2.Lh

/-! try with several clauses, any of which may name its error; the error's field is read in its suite -/
namespace L2.Lh
open PySem PySem.Spec PyProof.Rows LamX
def endN (D : Ends) (i : Nat) : Ends := { nx := fun τ G => D.nx (τ.set i none) G, rt := fun _ _ => False, bk := fun _ _ => False, ct := fun _ _ => False }
abbrev HdA := Value × Option Nat × (Addr → Value → Option Addr → TS)
def wManyA (K : PySem.W.Frag) (Wout : WX) (D : Ends) : List HdA → WX
  | [] => Wout
  | (c, none, ts) :: r => fun cls d σ H => ∃ b, PySem.W.exmOne K cls c = some b ∧ (b = true → ∀ a, H a = none → ts a cls d D σ H) ∧ (b = false → wManyA K Wout D r cls d σ H)
  | (c, some i, ts) :: r => fun cls d σ H => ∃ b, PySem.W.exmOne K cls c = some b ∧ (b = true → ∀ a, H a = none → ts a cls d (endN D i) (σ.set i (some (.ref a))) H) ∧ (b = false → wManyA K Wout D r cls d σ H)
inductive HdsA (X : Cx) : List ExceptHandler → List HdA → Prop
  | nil : HdsA X [] []
  | cons {x : Str} {c : Value} {ts : Addr → Value → Option Addr → TS} {b₀ : Stmt} {suite : List Stmt} {np pos' : Pos} {hds : List ExceptHandler} {l : List HdA} (hc : Names X x c)
      (hsu : ∀ (a : Addr) (oe : Obj) (cls : Value) (d : Option Addr) (pn : List (Addr × Obj)), Zc cls d oe → (∃ vs, oe.data = .fields vs) → PSs (X.suite a ((a, oe) :: pn)) (b₀ :: suite) (ts a cls d)) (r : HdsA X hds l) :
      HdsA X (.ExceptHandler (some (.Name x np)) none (b₀ :: suite) pos' :: hds) ((c, none, ts) :: l)
  | consN {x n : Str} {i : Nat} {c : Value} {ts : Addr → Value → Option Addr → TS} {b₀ : Stmt} {suite : List Stmt} {np pos' : Pos} {hds : List ExceptHandler} {l : List HdA} (hc : Names X x c) (hi : X.N[i]? = some n) (hkind : X.env.kindOf n = some .local)
      (hsu : ∀ (a : Addr) (oe : Obj) (cls : Value) (d : Option Addr) (pn : List (Addr × Obj)), Zc cls d oe → (∃ vs, oe.data = .fields vs) → PSs (X.suite a ((a, oe) :: pn)) (b₀ :: suite) (ts a cls d)) (r : HdsA X hds l) :
      HdsA X (.ExceptHandler (some (.Name x np)) (some n) (b₀ :: suite) pos' :: hds) ((c, some i, ts) :: l)
section
variable {X : Cx} {body : List Stmt} {h₀ : ExceptHandler} {hds : List ExceptHandler} {l : List HdA} {pos : Pos} {tb : WX → TS} {Wout : WX}
end
/-! ### over plain data -/
abbrev DHdA := CT × Value × Option Nat × (Addr → Value → DTS)
def endND (E : DEnds) (i : Nat) : DEnds := { nx := fun ρ2 m2 => E.nx (ρ2.set i none) m2, rt := fun _ _ => False }
def wManyDA (we : DWX) (E : DEnds) : List DHdA → DWX
  | [], cls, ρ, m => we cls ρ m
  | (xt, c, none, ts) :: r, cls, ρ, m => ∃ b, (xvC cls, c, b) ∈ xt ∧ (b = true → ∀ a, m a = none → ts a cls E ρ m) ∧ (b = false → wManyDA we E r cls ρ m)
  | (xt, c, some i, ts) :: r, cls, ρ, m => ∃ b, (xvC cls, c, b) ∈ xt ∧ (b = true → ∀ a, m a = none → ts a cls (endND E i) (ρ.set i (some (.ref a))) m) ∧ (b = false → wManyDA we E r cls ρ m)
section
variable {X : Cx} {B : Bs}
abbrev SuiteA (X : Cx) (body : List Stmt) (ts : Addr → Value → DTS) : Prop :=
  ∀ (B' : Bs) (a : Addr) (oe : Obj) (mk : Value) (pn : List (Addr × Obj)), Zc (xvC mk) (xvD mk) oe → (∃ vs, oe.data = .fields vs) → DSs B' (X.suite a ((a, oe) :: pn)) body (ts a mk)
inductive DHdsA (X : Cx) : List ExceptHandler → List DHdA → Prop
  | nil : DHdsA X [] []
  | cons {x : Str} {c : Value} {xt : CT} {ts : Addr → Value → DTS} {b₀ : Stmt} {suite : List Stmt} {np pos' : Pos} {hds : List ExceptHandler} {l : List DHdA} (xo : ExOk X.K xt)
      (hSuite : SuiteA X (b₀ :: suite) ts) (hc : Names X x c) (r : DHdsA X hds l) :
      DHdsA X (.ExceptHandler (some (.Name x np)) none (b₀ :: suite) pos' :: hds) ((xt, c, none, ts) :: l)
  | consN {x n : Str} {i : Nat} {c : Value} {xt : CT} {ts : Addr → Value → DTS} {b₀ : Stmt} {suite : List Stmt} {np pos' : Pos} {hds : List ExceptHandler} {l : List DHdA} (xo : ExOk X.K xt)
      (hSuite : SuiteA X (b₀ :: suite) ts) (hc : Names X x c) (r : DHdsA X hds l) (hi : X.N[i]? = some n := by rfl) (hkind : X.env.kindOf n = some .local := by rfl) :
      DHdsA X (.ExceptHandler (some (.Name x np)) (some n) (b₀ :: suite) pos' :: hds) ((xt, c, some i, ts) :: l)
def hdsTA (K : PySem.W.Frag) (l : List DHdA) : List HdA := l.map fun h => (h.2.1, h.2.2.1, fun a cls d F σ H => ∃ B' mk, (cls = xvC mk ∧ d = xvD mk) ∧ upS K B' (h.2.2.2 a mk) F σ H)
theorem DHdsA.ok {hds : List ExceptHandler} {l : List DHdA} (h : DHdsA X hds l) : HdsA X hds (hdsTA X.K l) := by
  induction h with
  | nil => exact .nil
  | cons xo hs hc r ih => exact .cons hc (fun a oe cls d pn hz hd => ⟨fun pins s σ H F I ⟨B', mk, ⟨e1, e2⟩, h⟩ => by subst e1 e2; exact (hs B' a oe mk _ hz hd).run pins s σ H F I h⟩) ih
  | consN xo hs hc r hi hk ih => exact .consN hc hi hk (fun a oe cls d pn hz hd => ⟨fun pins s σ H F I ⟨B', mk, ⟨e1, e2⟩, h⟩ => by subst e1 e2; exact (hs B' a oe mk _ hz hd).run pins s σ H F I h⟩) ih
theorem DHdsA.wish {hds : List ExceptHandler} {l : List DHdA} (h : DHdsA X hds l) {we : DWX} {E : DEnds} {F : Ends} {H0 : Hp} {m0 : Mem} (eo : EndsOk X.K H0 m0 E F) (stB : Step B.H B.m H0 m0) :
    ∀ cls d σ' H', upW X.K ⟨H0, m0⟩ (wManyDA we E l) cls d σ' H' → wManyA X.K (upW X.K B we) F (hdsTA X.K l) cls d σ' H' := by
  induction h with
  | nil =>
    rintro cls d σ' H' ⟨c0, dn, ρ1, m1, p1, w⟩
    exact ⟨c0, dn, ρ1, m1, ⟨p1.env, p1.sim, stB.trans p1.st⟩, w⟩
  | @cons x c xt ts b₀ suite np pos' hds l xo hs hc r ih =>
    rintro cls d σ' H' ⟨c0, ⟨e1, e2⟩, ρ1, m1, p1, b, hb, hyes, hno⟩
    subst e1 e2
    exact ⟨b, xo _ hb, fun e a ha => ⟨⟨H', m1⟩, c0, ⟨rfl, rfl⟩, ρ1, m1, E, ⟨p1.env, p1.sim, Step.refl _ _⟩, hyes e a (p1.sim.free ha), eo.next p1.st⟩, fun e => ih _ _ σ' H' ⟨c0, ⟨rfl, rfl⟩, ρ1, m1, p1, hno e⟩⟩
  | @consN x n i c xt ts b₀ suite np pos' hds l xo hs hc r hi hk ih =>
    rintro cls d σ' H' ⟨c0, ⟨e1, e2⟩, ρ1, m1, p1, b, hb, hyes, hno⟩
    subst e1 e2
    refine ⟨b, xo _ hb, fun e a ha => ⟨⟨H', m1⟩, c0, ⟨rfl, rfl⟩, ρ1.set i (some (.ref a)), m1, _, ⟨p1.env.set (.ref a) i, p1.sim, Step.refl _ _⟩, hyes e a (p1.sim.free ha), ?_, ?_, ?_, ?_⟩, fun e => ih _ _ σ' H' ⟨c0, ⟨rfl, rfl⟩, ρ1, m1, p1, hno e⟩⟩
    · intro ρ2 m2 σ2 H2 q2 env2 sim2 st2
      exact eo.nx _ _ _ _ q2 (env2.setNone i) sim2 (p1.st.trans st2)
    · intro _ _ _ _ z; exact z.elim
    · intro _ _ _ _ z; exact z.elim
    · intro _ _ _ _ z; exact z.elim
end
end L2.Lh

/-! texts: globals, signs, walks, ends; dicts with text keys: None in d, d.pop(k), sorted(d) -/
namespace L2.Lh
open PySem PySem.Spec PyProof.Rows LamX
section
variable {X : Cx} {B : Bs}
/-! ### for c in text -/
/-! ### text[i] -/
/-! ### sign in text -/
/-! ### x in d, x a text, a number or None -/
/-! ### text.endswith(text) -/
/-! ### d.pop(k) -/
/-! ### sorted(d), keys texts -/
end
end L2.Lh

/-! a statement that walks a dict which is written again later: it is locked while the statement runs -/
namespace L2.Lh
open PySem PySem.Spec PyProof.Rows LamX
/-- all but what is locked stays -/
def Thw (H H' : Hp) : Prop := ∀ b u, H b = some u → (∀ od kv, u ≠ .frz od (.dK kv)) → H' b = some u
mutual
theorem Rep.thw {K : PySem.W.Frag} {H H' : Hp} (t : Thw H H') : ∀ {d : D} {v : V}, Rep K H d v → Rep K H' d v
  | _, _, .non => .non
  | _, _, .bl b => .bl b
  | _, _, .int i => .int i
  | _, _, .str x => .str x
  | _, _, .ty n => .ty n
  | _, _, .ref a => .ref a
  | _, _, .tup h r => .tup (t _ _ h fun _ _ z => nomatch z) (Reps.thw t r)
  | _, _, .ftup h n r => .ftup (t _ _ h fun _ _ z => by cases z) n (Reps.thw t r)
  | _, _, .rol h r => .rol (by
      rcases h with ⟨o, h⟩ | h
      · exact .inl ⟨o, t _ _ h fun _ _ z => by cases z⟩
      · exact .inr h) (Reps.thw t r)
theorem Reps.thw {K : PySem.W.Frag} {H H' : Hp} (t : Thw H H') : ∀ {ds : List D} {vs : List V}, Reps K H ds vs → Reps K H' ds vs
  | _, _, .nil => .nil
  | _, _, .cons h r => .cons (Rep.thw t h) (Reps.thw t r)
end
section
variable {K : PySem.W.Frag} {H H' : Hp}
theorem LamAt.thw (t : Thw H H') {f : Addr} {nm : Str} {L : LamSyn} {cl : List (Str × Addr)} (h : LamAt H f nm L cl) : LamAt H' f nm L cl :=
  let ⟨pm, ctv, c', e1, e2⟩ := h; ⟨pm, ctv, c', t _ _ e1 (fun _ _ z => by cases z), t _ _ e2 (fun _ _ z => by unfold CodeO at z; cases z)⟩
theorem CelAt.thw (t : Thw H H') {c : Addr} {d : D} (h : CelAt K H c d) : CelAt K H' c d :=
  let ⟨o, u, v, e1, e2, e3, e4⟩ := h; ⟨o, u, v, t _ _ e1 (fun _ _ z => by cases z), e2, e3, e4.thw t⟩
theorem CelsAt.thw (t : Thw H H') {ds : List (Str × D)} {cl : List (Str × Addr)} (h : CelsAt K H ds cl) : CelsAt K H' ds cl := Paired.mapP h fun _ _ q => ⟨q.1, q.2.thw t⟩
theorem RepF.thw (t : Thw H H') {fs : List (Str × D)} {fv : List (Str × V)} (h : RepF K H fs fv) : RepF K H' fs fv := Paired.mapP h fun _ _ q => ⟨q.1, q.2.thw t⟩
theorem KeyRep.thw (t : Thw H H') {k : NestedKey} {a : Addr} (h : KeyRep K H k a) : KeyRep K H' k a := let ⟨d, r, e, z⟩ := h; ⟨d, r.thw t, e, z⟩
theorem RepK.thw (t : Thw H H') {fs : List (Key × D)} {fv : List (Key × V)} (h : RepK K H fs fv) : RepK K H' fs fv := Paired.mapP h fun _ _ q => ⟨q.1, q.2.thw t⟩
theorem RepN.thw (t : Thw H H') {fs : List (NestedKey × D)} {fv : List (NestedKey × Addr × Value)} (h : RepN K H fs fv) : RepN K H' fs fv :=
  Paired.mapP h fun _ _ ⟨e, k, v, r, rv⟩ => ⟨e, k.thw t, v, r.thw t, rv⟩
theorem RawN.thw (t : Thw H H') {a : Addr} {kvs : List (NestedKey × D)} {es : Array DictEntry} {ep : Nat} {xs : List (NestedKey × Addr × Value)} (h : RawN K H a kvs es ep xs) : RawN K H' a kvs es ep xs :=
  ⟨h.ent, h.nd, h.sz, h.sys, h.rel.thw t⟩
theorem RepO.thw {a : Addr} {o : MO} (t : Thw H H') (h : ∀ u, H a = some u → H' a = some u) (r : RepO K H a o) : RepO K H' a o := by
  cases o with
  | lst ds => obtain ⟨vs, e, q⟩ := r; exact ⟨vs, h _ e, q.thw t⟩
  | ins C fs => obtain ⟨dx, fv, e, q⟩ := r; exact ⟨dx, fv, h _ e, q.thw t⟩
  | exc cls => exact h _ r
  | xd fs => obtain ⟨fv, e, q⟩ := r; exact ⟨fv, h _ e, q.thw t⟩
  | dK kvs => obtain ⟨kv, e, q⟩ := r; exact ⟨kv, h _ e, q.thw t⟩
  | dN kvs => obtain ⟨es, ep, xs, e, q⟩ := r; exact ⟨es, ep, xs, h _ e, q.thw t⟩
  | dR kvs es ep ds => obtain ⟨e, xs, q, r⟩ := r; exact ⟨h _ e, xs, q.thw t, r.thw t⟩
  | dT kds => obtain ⟨es, ep, xs, e, q, r⟩ := r; exact ⟨es, ep, xs, h _ e, q.thw t, r.thw t⟩
  | tbl q =>
    obtain ⟨ps, h1, h2, h3⟩ := r
    exact ⟨ps, h _ h1, h2, fun pos cv hc => let ⟨c, e1, e2⟩ := h3 pos cv hc; ⟨c, e1, t c _ e2 (fun _ _ z => by unfold CodeO at z; cases z)⟩⟩
  | dF kvs => obtain ⟨od, kv, e, q⟩ := r; exact ⟨od, kv, h _ e, q.thw t⟩
  | lam nm L fr CL => exact ⟨LamAt.thw t r.1, r.2⟩
  | clo nm L ds => obtain ⟨cl, e, i, f, q⟩ := r; exact ⟨cl, e.thw t, i, f, q.thw t⟩
  | own C f d =>
    obtain ⟨oe, od, dx, y, e1, e2, e3⟩ := r
    exact ⟨oe, od, dx, y, t _ _ e1 (fun _ _ z => by unfold L2.exo at z; cases z), t _ _ e2 (fun _ _ z => by unfold L2.exd at z; cases z), e3.thw t⟩
theorem RelO2.thw (t : Thw H H') : ∀ {d : Option D} {v : Option V}, RelO2 K H d v → RelO2 K H' d v
  | some _, some _, h => Rep.thw t h
  | none, _, _ => trivial
  | some _, none, h => h
theorem RepEnv.thw (t : Thw H H') {ρ : DEnv} {σ : St} (h : RepEnv K H ρ σ) : RepEnv K H' ρ σ := Paired.mapP h fun _ _ q => RelO2.thw t q
end
section
variable {X : Cx} {B : Bs}
end
end L2.Lh

/-! x == [], x != [] of a list of any things -/
namespace L2.Lh
open PySem PySem.Spec PyProof.Rows LamX PySem.SeqAt
section
variable {X : Cx} {B : Bs} {pos : Pos}
end
end L2.Lh

/-! f-strings; x != y, x an instance with its own __eq__ -/
namespace L2.Lh
open PySem PySem.Spec PyProof.Rows LamX
/-! ### f-strings -/
section
variable {X : Cx} {B : Bs}
inductive DJ (B : Bs) (X : Cx) : List Expr → List DTE → Prop where
  | nil : DJ B X [] []
  | cons {e : Expr} {t : DTE} {es : List Expr} {ts : List DTE} (h : DE B X e t) (r : DJ B X es ts) : DJ B X (e :: es) (t :: ts)
end
/-! ### x != y, by the class's own __eq__ -/
section
variable {prog : Program} {w : World} {A : Around} {E : Value → Shared → Prop} {s : Shared} {K : PySem.W.Frag} {x C L f : Addr} {h₀ : Heap} {m : Str → Option Value} {ox : Obj} {od : Option Obj} {b tb : Value}
end
section
variable {prog : Program} {w : World} {A : Around} {E : Value → Shared → Prop} {s : Shared} {K : PySem.W.Frag} {x C L f : Addr} {h₀ : Heap} {m : Str → Option Value} {ox : Obj} {od : Option Obj} {b tb : Value}
end
/-- a class whose != is that of object -/
structure NeC (K : PySem.W.Frag) (C : Addr) : Prop where
  s : PySem.W.findIn K (.ref C) "__ne__" = some (some (.builtin "object.__ne__"))
  m : PySem.W.mroIn K C (.type "object") = some true
section
variable {X : Cx} {k : Nat} {C : Addr} {ps : List Str} {sp : DSp}
end
end L2.Lh

/-! {} != a text -/
namespace L2.Lh
open PySem PySem.Spec PyProof.Rows LamX PySem.W PySem.Calls PySem.SeqAt PySem.MeetsSeq
section
variable {A : Around} {s : Shared}
end
section
variable {X : Cx}
end
end L2.Lh

/-! the head of a law by one run: its facts by names -/
namespace L2.Lh
open PySem PySem.Spec PyProof.Rows LamX L2
/-- a class: of the module's names, of the language -/
inductive Tv where
  | cl (x : Str)
  | ty (n : String)
def Tv.v (K : PySem.W.Frag) : Tv → Value
  | .cl x => .ref (He.ga K x)
  | .ty n => .type n
/-- one fact of the head -/
inductive Hf where
  | glo (x : Str)
  | free (x : Str)
  | int (x : Str) (i : Int)
  | str (x z : Str)
  | cls (x : Str)
  | noat (x f : Str)
  | mk (x : Str)
  | meth (x m : Str)
  | oex (x : Str)
  | xf (x : Str)
  | ne (x : Str)
  | exc (x : Str)
  | insA (x : Str)
  | insB (x : Str)
  | kit (a b : Tv) (r : Bool)
  | exm (a b : Tv) (r : Bool)
def Hf.P (K : PySem.W.Frag) : Hf → Prop
  | .glo x => PySem.W.nsIn K mainGlobals x = some (some (.ref (He.ga K x)))
  | .free x => PySem.W.nsIn K mainGlobals x = some none
  | .int x i => ∃ t, PySem.W.nsIn K mainGlobals x = some (some (.int i t))
  | .str x z => ∃ t, PySem.W.nsIn K mainGlobals x = some (some (.str z t))
  | .cls x => Cls K (He.ga K x)
  | .noat x f => PySem.W.findIn K (.ref (He.ga K x)) f = some none
  | .mk x => PySem.W.makesIn K (He.ga K x) = true ∧ PySem.W.keepIn K (.ref (He.ga K x)) = true
  | .meth x m => PySem.W.findIn K (.ref (He.ga K x)) m = some (some (.ref (He.ma K (He.ga K x) m))) ∧ PySem.W.isFn K (.ref (He.ma K (He.ga K x) m)) = true ∧ PySem.W.keepIn K (.ref (He.ma K (He.ga K x) m)) = true
  | .oex x => OexC K (He.ga K x)
  | .xf x => XfC K (He.ga K x)
  | .ne x => NeC K (He.ga K x)
  | .exc x => PySem.W.excIn K (He.ga K x) He.veBase "ValueError.__new__" = true ∧ PySem.W.keepIn K (.ref (He.ga K x)) = true ∧ PySem.W.subIn K (.ref (He.ga K x)) (.type "BaseException") = some true ∧ PySem.W.typeIn K (.ref (He.ga K x)) = some (.type "type")
  | .insA x => PySem.W.findIn K (.ref (He.ga K x)) "__getattribute__" = some (some (.builtin "BaseException.__getattribute__")) ∧ PySem.W.findIn K (.ref (He.ga K x)) "__getattr__" = some none ∧ PySem.W.subIn K (.ref (He.ga K x)) (.type "BaseException") = some true ∧ PySem.W.hasDictIn K (He.ga K x) = true
  | .insB x => PySem.W.findIn K (.ref (He.ga K x)) "__class__" = some (some (.builtin "object.__class__")) ∧ PySem.W.specialIn K (.builtin "object.__class__") "__get__" = some (some (.builtin "getset_descriptor.__get__")) ∧ PySem.W.takesIn K (.builtin "object.__class__") = some true ∧ PySem.W.mroIn K (He.ga K x) (.type "object") = some true
  | .kit a b r => PySem.W.kitOne K (a.v K) (b.v K) = some r
  | .exm a b r => PySem.W.exmOne K (a.v K) (b.v K) = some r
def oexB (K : PySem.W.Frag) (C : Addr) : Bool := match K.lookup C with
  | some ⟨.type ct, _, .cls ⟨_, _, mro, _, _, hd, _, _, _, _, del⟩, sl⟩ => decide (ct = "type") && (match mro with
    | .ref C' :: bm => decide (C' = C) && PySem.HandSPX.refsVE bm
    | _ => false) && hd && !del && (match sl.toList with
    | [_, _, _, _, some (.builtin n), _] => decide (n = "ValueError.__new__")
    | _ => false)
  | _ => false
theorem oexB_ok {K : PySem.W.Frag} {C : Addr} (h : oexB K C = true) : ∃ nm q N bs bm sn sub ab col dd k0 k1 k2 k3 k5, K.lookup C = some (excClassObj nm q C N bs bm true sn sub ab col dd k0 k1 k2 k3 k5 "ValueError.__new__") ∧ PySem.HandSPX.refsVE bm = true := by
  unfold oexB at h
  split at h
  · rename_i ct od nm bs mro ns q hd sn sub ab col del sl e
    simp only [Bool.and_eq_true] at h
    obtain ⟨⟨⟨⟨h1, h2⟩, h3⟩, h4⟩, h5⟩ := h
    split at h2
    · rename_i C' bm
      simp only [Bool.and_eq_true] at h2
      split at h5
      · rename_i k0 k1 k2 k3 n k5 e5
        cases of_decide_eq_true h1
        cases of_decide_eq_true h2.1
        cases of_decide_eq_true h5
        cases hd with
        | false => cases h3
        | true =>
          cases del with
          | true => cases h4
          | false =>
            have es : sl = #[k0, k1, k2, k3, some (.builtin "ValueError.__new__"), k5] := by rw [← Array.toList_inj]; exact e5
            exact ⟨_, _, _, _, bm, _, _, _, _, _, k0, k1, k2, k3, k5, by rw [e, es], h2.2⟩
      · cases h5
    · cases h2
  · cases h
def Hf.ok (K : PySem.W.Frag) : Hf → Bool
  | .glo x => He.eqO (PySem.W.nsIn K mainGlobals x) (some (some (.ref (He.ga K x))))
  | .free x => He.eqO (PySem.W.nsIn K mainGlobals x) (some none)
  | .int x i => (match PySem.W.nsIn K mainGlobals x with
    | some (some (.int j _)) => decide (j = i)
    | _ => false)
  | .str x z => (match PySem.W.nsIn K mainGlobals x with
    | some (some (.str y _)) => decide (y = z)
    | _ => false)
  | .cls x => PySem.W.plainGet K (He.ga K x) Str.empty && (PySem.W.hasDictIn K (He.ga K x) && (PySem.W.plainOver K (He.ga K x) && He.eqO (PySem.W.findIn K (.ref (He.ga K x)) "__setattr__") (some (some (.builtin "object.__setattr__")))))
  | .noat x f => He.eqO (PySem.W.findIn K (.ref (He.ga K x)) f) (some none)
  | .mk x => PySem.W.makesIn K (He.ga K x) && PySem.W.keepIn K (.ref (He.ga K x))
  | .meth x m => He.eqO (PySem.W.findIn K (.ref (He.ga K x)) m) (some (some (.ref (He.ma K (He.ga K x) m)))) && (PySem.W.isFn K (.ref (He.ma K (He.ga K x) m)) && PySem.W.keepIn K (.ref (He.ma K (He.ga K x) m)))
  | .oex x => oexB K (He.ga K x) && (He.eqO (PySem.W.findIn K (.ref (He.ga K x)) "__setattr__") (some (some (.builtin "object.__setattr__"))) && (decide (PySem.W.subIn K (.ref (He.ga K x)) (.type "BaseException") = some true) && (decide (PySem.W.typeIn K (.ref (He.ga K x)) = some (.type "type")) && PySem.W.keepIn K (.ref (He.ga K x)))))
  | .xf x => He.eqO (PySem.W.findIn K (.ref (He.ga K x)) "__getattribute__") (some (some (.builtin "BaseException.__getattribute__"))) && (He.eqO (PySem.W.findIn K (.ref (He.ga K x)) "__getattr__") (some none) && (decide (PySem.W.subIn K (.ref (He.ga K x)) (.type "BaseException") = some true) && PySem.W.hasDictIn K (He.ga K x)))
  | .ne x => He.eqO (PySem.W.findIn K (.ref (He.ga K x)) "__ne__") (some (some (.builtin "object.__ne__"))) && decide (PySem.W.mroIn K (He.ga K x) (.type "object") = some true)
  | .exc x => PySem.W.excIn K (He.ga K x) He.veBase "ValueError.__new__" && (PySem.W.keepIn K (.ref (He.ga K x)) && (decide (PySem.W.subIn K (.ref (He.ga K x)) (.type "BaseException") = some true) && decide (PySem.W.typeIn K (.ref (He.ga K x)) = some (.type "type"))))
  | .insA x => He.eqO (PySem.W.findIn K (.ref (He.ga K x)) "__getattribute__") (some (some (.builtin "BaseException.__getattribute__"))) && (He.eqO (PySem.W.findIn K (.ref (He.ga K x)) "__getattr__") (some none) && (decide (PySem.W.subIn K (.ref (He.ga K x)) (.type "BaseException") = some true) && PySem.W.hasDictIn K (He.ga K x)))
  | .insB x => He.eqO (PySem.W.findIn K (.ref (He.ga K x)) "__class__") (some (some (.builtin "object.__class__"))) && (He.eqO (PySem.W.specialIn K (.builtin "object.__class__") "__get__") (some (some (.builtin "getset_descriptor.__get__"))) && (decide (PySem.W.takesIn K (.builtin "object.__class__") = some true) && decide (PySem.W.mroIn K (He.ga K x) (.type "object") = some true)))
  | .kit a b r => decide (PySem.W.kitOne K (a.v K) (b.v K) = some r)
  | .exm a b r => decide (PySem.W.exmOne K (a.v K) (b.v K) = some r)
theorem Hf.get {K : PySem.W.Frag} {f : Hf} (h : f.ok K = true) : f.P K := by
  cases f with
  | glo x => exact He.eqO_ok h
  | free x => exact He.eqO_ok h
  | int x i =>
    have h' : (match PySem.W.nsIn K mainGlobals x with
      | some (some (.int j _)) => decide (j = i)
      | _ => false) = true := h
    split at h'
    · rename_i j t e
      cases of_decide_eq_true h'
      exact ⟨t, e⟩
    · cases h'
  | str x z =>
    have h' : (match PySem.W.nsIn K mainGlobals x with
      | some (some (.str y _)) => decide (y = z)
      | _ => false) = true := h
    split at h'
    · rename_i j t e
      cases of_decide_eq_true h'
      exact ⟨t, e⟩
    · cases h'
  | cls x => exact He.cls_ok (x := x) h
  | noat x f => exact He.eqO_ok h
  | mk x => exact He.ba h
  | meth x m =>
    obtain ⟨h1, h2⟩ := He.ba h
    obtain ⟨h3, h4⟩ := He.ba h2
    exact ⟨He.eqO_ok h1, h3, h4⟩
  | oex x =>
    obtain ⟨h1, h⟩ := He.ba h
    obtain ⟨h2, h⟩ := He.ba h
    obtain ⟨h3, h⟩ := He.ba h
    obtain ⟨h4, h5⟩ := He.ba h
    obtain ⟨nm, q, N, bs, bm, sn, sub, ab, col, dd, k0, k1, k2, k3, k5, e, r⟩ := oexB_ok h1
    exact ⟨⟨_, _, _, _, _, _, _, _, _, _, _, _, _, _, _, e, r⟩, He.eqO_ok h2, of_decide_eq_true h3, of_decide_eq_true h4, h5⟩
  | xf x =>
    obtain ⟨h1, h⟩ := He.ba h
    obtain ⟨h2, h⟩ := He.ba h
    obtain ⟨h3, h4⟩ := He.ba h
    exact ⟨He.eqO_ok h1, He.eqO_ok h2, of_decide_eq_true h3, h4⟩
  | ne x =>
    obtain ⟨h1, h2⟩ := He.ba h
    exact ⟨He.eqO_ok h1, of_decide_eq_true h2⟩
  | exc x =>
    obtain ⟨h1, h⟩ := He.ba h
    obtain ⟨h2, h⟩ := He.ba h
    obtain ⟨h3, h4⟩ := He.ba h
    exact ⟨h1, h2, of_decide_eq_true h3, of_decide_eq_true h4⟩
  | insA x =>
    obtain ⟨h1, h⟩ := He.ba h
    obtain ⟨h2, h⟩ := He.ba h
    obtain ⟨h3, h4⟩ := He.ba h
    exact ⟨He.eqO_ok h1, He.eqO_ok h2, of_decide_eq_true h3, h4⟩
  | insB x =>
    obtain ⟨h1, h⟩ := He.ba h
    obtain ⟨h2, h⟩ := He.ba h
    obtain ⟨h3, h4⟩ := He.ba h
    exact ⟨He.eqO_ok h1, He.eqO_ok h2, of_decide_eq_true h3, of_decide_eq_true h4⟩
  | kit a b r => exact of_decide_eq_true (p := PySem.W.kitOne K (a.v K) (b.v K) = some r) h
  | exm a b r => exact of_decide_eq_true (p := PySem.W.exmOne K (a.v K) (b.v K) = some r) h
/-! ### the Hook -/
abbrev AlP : Type := Bool × List He.FnW
def obsP (fs : List Hf) (fn : List He.DefD) (K : PySem.W.Frag) : AlP := ((fs.all fun f => f.ok K) && fn.all fun d => d.ok K, fn.map fun d => He.fnW K d.at_)
def valP (fn : List He.DefD) : AlP := (true, fn.map He.DefD.val)
def SaysP (fs : List Hf) (fn : List He.DefD) (K : PySem.W.Frag) : Prop := obsP fs fn K = valP fn
section
variable {fs : List Hf} {fn : List He.DefD} {K : PySem.W.Frag}
theorem SaysP.fact (c : SaysP fs fn K) (i : Nat) {f : Hf} (h : fs[i]? = some f := by rfl) : f.P K := by
  have c1 := (He.ba (show ((fs.all fun f => f.ok K) && fn.all fun d => d.ok K) = true from congrArg (fun z : AlP => z.1) c)).1
  exact Hf.get (List.all_eq_true.mp c1 f (List.mem_of_getElem? h))
end
/-! ### the end -/
end L2.Lh

/-! a text, or else -/
namespace L2.Lh
open PySem PySem.Spec PyProof.Rows LamX L2
section
variable {X : Cx} {B : Bs} {a b : Expr} {ta tb : DTE} {pos : Pos} {rest : List Expr}
end
end L2.Lh

/-! isinstance(e, (C, D, ..)): e an error that is kept, or nothing -/
namespace L2.Lh
open PySem PySem.Spec PyProof.Rows LamX
section
variable {X : Cx} {B : Bs}
end
end L2.Lh

/-! [told(work) for work in works]: the lambdas are of the frame that runs -/
namespace L2.Lh
open PySem PySem.Spec PyProof.Rows LamX
section
variable {X : Cx}
end
abbrev DEb (B : Bs) (X : Cx) (vs : List Nat) (σ0 : L2.St) (e : Expr) (t : DTE) : Prop := PE X e (fun σ8 G Q => L2.wipe σ8 vs = L2.wipe σ0 vs ∧ upE X.K B t σ8 G Q)
theorem DEb.of {B : Bs} {X : Cx} {vs : List Nat} {σ0 : L2.St} {e : Expr} {t : DTE} (h : DE B X e t) : DEb B X vs σ0 e t := pe_imp h fun _ _ _ z => z.2
section
variable {X : Cx} {B : Bs}
end
end L2.Lh

/-! raise, in a def that runs while an exception is handled or not -/
namespace L2.Lh
open PySem PySem.Spec PyProof.Rows LamX HotX L2H
end L2.Lh

/-! o.m(k=..): a method of the text called by keywords -/
namespace L2.Lh
open PySem PySem.Spec PyProof.Rows LamX
noncomputable section
section
variable {X : Cx} {B : Bs} {o : Expr} {kws : List Keyword} {to : DTE} {t : DTA} {sp : DSp} {we : DWX} {mn : Str} {apos pos : Pos} {C : Addr} {k : Nat} {ps ks : List Str} {ix : List Nat}
end
end
end L2.Lh

/-! C(e) of an own error class, made as a value and kept -/
namespace L2
open PySem PySem.Spec PyProof.Rows LamX
section
variable {X : Cx} {e : Expr} {es : List Expr} {ta : TA} {p pos : Pos}
end
end L2
namespace L2.Lh
open PySem PySem.Spec PyProof.Rows LamX HotX L2H
noncomputable section
section
variable {X : Cx} {B : Bs} {k : Nat} {C : Addr} {p f : Str} {x : Str} {e : Expr} {es : List Expr} {t : DTA} {p1 pos : Pos}
end
end
end L2.Lh

/-! an own error that is kept: its field is read -/
namespace L2.Lh
open PySem PySem.Spec PyProof.Rows LamX HotX L2H
noncomputable section
theorem OwnErr.at_ {X : Cx} {pins : List (Addr × Obj)} {σ : L2.St} {H : Hp} {s : Shared} {a C : Addr} {f : Str} {d : D} (I : Inv X pins σ H s) (h : OwnErr X.K H a C f d) :
    ∃ (oe od : Obj) (dx : Addr) (y : V) (mA : Str → Option Value), s.heap.get? a = some oe ∧ oe.cls = .ref C ∧ oe.dict = some dx ∧ (∃ vs, oe.data = .fields vs) ∧ s.heap.get? dx = some od ∧ s.heap.Ns1 dx mA ∧ (∀ g, RelO (([(f, y)] : List (Str × V)).lookup g) (mA g)) ∧ Rep X.K H d y := by
  obtain ⟨oe, od, dx, y, e1, e2, ry⟩ := h
  obtain ⟨g1, x1⟩ := I.hok a _ e1
  obtain ⟨g2, x2⟩ := I.hok dx _ e2
  unfold L2.exo at x1
  unfold L2.exd at x2
  obtain ⟨⟨t1, h1⟩, _⟩ := x1
  obtain ⟨⟨mA, h2, h3⟩, _⟩ := x2
  rw [g1] at h1
  cases h1
  exact ⟨_, od, dx, y, mA, g1, rfl, rfl, ⟨_, rfl⟩, g2, h2, h3, ry⟩
end
end L2.Lh

/-! isinstance of an own error that is kept -/
namespace L2.Lh
open PySem PySem.Spec PyProof.Rows LamX HotX L2H
noncomputable section
section
variable {X : Cx}
end
end
end L2.Lh

/-! parts of a tuple and sums of tuples, each a known object where it is new -/
namespace L2.Lh
open PySem PySem.Spec PyProof.Rows LamX
section
variable {X : Cx} {B : Bs} {e : Expr} {te : DTE} {tl th : DTO} {lo hi : Option Expr} {pos p2 : Pos}
end
end L2.Lh

/-! sorted(xs, key=f), the calls of f told step by step -/
namespace L2
open PySem PySem.Spec PyProof.Rows LamX
section
variable {X : Cx} {pins : List (Addr × Obj)} {σ : St} {H : Hp} {s : Shared}
/-- fresh objects that nobody tracks have moved -/
theorem Inv.moveS {bs : List Addr} {h' : Heap} {tk : Nat} (I : Inv X pins σ H s) (hb : ∀ b ∈ bs, H b = none ∧ X.s_0.heap.objs.size ≤ b ∧ b ≠ X.env.locals ∧ (∀ x c, X.env.cells.lookup x = some c → c ≠ b) ∧ ∀ p ∈ X.pn ++ pins, p.1 ≠ b)
    (k : ∀ c u, c ∉ bs → s.heap.get? c = some u → h'.get? c = some u) : Inv X pins σ H { s with heap := h', toks := tk } := by
  have hok : HOk X.prog X.w H h' := fun b o e => (I.hok b o e).stay (fun c v z q => k c v (fun hc => by
      rcases z with rfl | z
      · rw [(hb _ hc).1] at e; cases e
      · rw [(hb _ hc).1] at z; cases z) q) (fun c q => q) (fun c xs q => q)
  refine I.call (g' := s.gens) (d' := s.drawn) (t' := tk) (ch := bs) ⟨fun b o q _ _ n => k b o n q, fun b o q _ _ n => ⟨o.slots, k b o n q⟩, fun b o _ n _ => n, fun b o q n => ⟨o, k b o n q⟩, fun b xs q => q, fun b o u q => q, fun b ps q => ⟨#[], by rw [q]; simp⟩⟩ hok I.bare fun b hb' => ?_
  obtain ⟨h1, h2, h3, h4, h5⟩ := hb b hb'
  exact ⟨.inr h2, h3, h4, h5⟩
end
end L2
namespace L2.Lh
open PySem PySem.Spec PyProof.Rows LamX
section
open PySem.W
variable {prog : Program} {w : World} {A : Around} {E : Value → Shared → Prop} {s : Shared}
/-- while keys are made: the list is empty, the keys made so far stand in a list of their own -/
def Kst (a kS : Addr) (e1 : Nat) (ks : List Value) (h : Heap) : Prop := h.get? a = some (seqObj "list" #[] e1) ∧ ∃ e, h.get? kS = some (seqObj "list" ks.toArray e)
theorem restK {a kS : Addr} {f : Value} {vs : List Value} {e1 : Nat} {P : PySem.Fin → Shared → Prop} (hka : kS ≠ a) (hZ : vs.length ≤ sizeLine) (Ψ : Nat → List Value → Shared → Prop) (h0 : Ψ 0 [] s)
    (hst : ∀ j ks s', Ψ j ks s' → Kst a kS e1 ks s'.heap ∧ ks.length = j)
    (turn : ∀ j v ks s', vs[j]? = some v → Ψ j ks s' → wpAny (model prog w) A (call f [v]) (fun u s2 => Kst a kS e1 ks s2.heap ∧ ∀ h' : Heap, (∀ b o, b ≠ kS → s2.heap.get? b = some o → h'.get? b = some o) → (∃ e, h'.get? kS = some (seqObj "list" (ks ++ [u]).toArray e)) → Ψ (j + 1) (ks ++ [u]) { s2 with heap := h' }) (fun _ _ => False) s')
    (fin : ∀ ks s', Ψ vs.length ks s' → ∃ kz : List PyData, kz.length = vs.length ∧ EachIs (fun v k => ∃ as, Reads s'.heap v k as) ks kz ∧ AllAlike kz ∧ Sortable kz ∧ (∀ d, d ∈ kz → A.units + d.depth < cLine) ∧
      ∀ h' tk c out, (∀ b o, b ≠ a → b ≠ kS → s'.heap.get? b = some o → h'.get? b = some o) → h'.get? a = some (seqObj "list" (List.toArray out) c) → KeyedOut false kz vs out → P (.done (.ret .none)) { s' with heap := h', toks := tk }) :
    wpAny (model prog w) A (ksk_rest a f false vs.toArray e1 (.ref kS)) P E s := by
  unfold ksk_rest
  refine wpAny_bind (wpAny_rule ?_)
  rw [List.forIn_toArray]
  refine wpAny_bind (ksk_fold (fun i s' => ∃ ks, Ψ i ks s') vs 0 s ⟨[], h0⟩ (fun j x s' hx ⟨ks, hΨ⟩ => ?_) fun s' ⟨ks, hΨ⟩ => ?_)
  · rw [Nat.zero_add] at hΨ ⊢
    have hj : j < vs.length := (List.getElem?_eq_some_iff.mp hx).1
    refine wpAny_bind (wpAny_attempt (wpAny_mono (turn j x ks s' hx hΨ) (fun u s2 got => ?_) fun _ _ z => z.elim))
    obtain ⟨⟨ga, e, gk⟩, nx⟩ := got
    have hl := (hst j ks s' hΨ).2
    try dsimp only
    have same := Heap.SameBut.update s2.heap kS (Obj.mapSeq (·.push u))
    obtain ⟨c2, hc2⟩ : ∃ c2, (s2.heap.update kS (Obj.mapSeq (·.push u))).get? kS = some (seqObj "list" (ks.toArray.push u) c2) := ⟨_, get?_update_seq gk (·.push u)⟩
    refine wpAny_bind (listUpdate_at gk rfl ?_ (by rw [List.size_toArray]; omega) (by rw [Array.size_push, List.size_toArray]; omega))
    exact wpAny_pure ⟨rfl, ks ++ [u], nx _ (fun b o hb q => (same.2 b hb).trans q) ⟨c2, by rw [hc2]; simp⟩⟩
  · rw [Nat.zero_add] at hΨ
    obtain ⟨⟨ga, e, gk⟩, hl⟩ := hst _ _ _ hΨ
    obtain ⟨kz, hlen, hr, hal, hsk, hu, hfin⟩ := fin ks s' hΨ
    try dsimp only
    refine wpAny_bind (listItems_at gk rfl ?_)
    obtain ⟨G, g1, g2⟩ := restrict s'.heap fun b => decide (b ≠ a ∧ b ≠ kS)
    have gs : ∀ b o, G.get? b = some o → s'.heap.get? b = some o := fun b o q => by
      by_cases hb : b ≠ a ∧ b ≠ kS
      · rw [← g1 b (decide_eq_true hb)]; exact q
      · rw [g2 b (decide_eq_false hb)] at q; cases q
    have gk0 : G.get? kS = none := g2 kS (decide_eq_false fun z => z.2 rfl)
    refine keyH_end (κ := dataKind s'.heap kz) (h₁ := G) (fun b o _ q => gs b o q) gk0 gk ga hka (SortsAt.data hr hal hsk hu) (by rw [List.size_toArray]; omega) hZ fun h' tk c kp na => ?_
    exact hfin h' tk c _ (fun b o hb1 hb2 q => kp b o hb1 (by rw [g1 b (decide_eq_true ⟨hb1, hb2⟩)]; exact q)) na ⟨s'.heap, ks, hal, by simp, by simpa using hr⟩
theorem treeK {a : Addr} {f : Value} {vs : List Value} {n : Nat} {P : PySem.Fin → Shared → Prop} (ho : s.heap.get? a = some (seqObj "list" vs.toArray n)) (hZ : vs.length ≤ sizeLine)
    (next : ∀ (e1 kS : Addr) (h3 : Heap), kS ≠ a → s.heap.objs.size ≤ kS → (∀ b o, b ≠ a → s.heap.get? b = some o → h3.get? b = some o) → Kst a kS e1 [] h3 → wpAny (model prog w) A (ksk_rest a f false vs.toArray e1 (.ref kS)) P E { s with heap := h3 }) :
    wpAny (model prog w) A (ksk_tree a f false) P E s := by
  have la := Heap.lt_size ho
  obtain ⟨e1, g1⟩ : ∃ e1, (s.heap.update a (Obj.mapSeq fun _ => (#[] : Array Value))).get? a = some (seqObj "list" #[] e1) := ⟨_, get?_update_seq ho fun _ => #[]⟩
  have z1 : ((s.heap.update a (Obj.mapSeq fun _ => (#[] : Array Value))).push (seqObj "tuple" vs.toArray 0)).objs.size = s.heap.objs.size + 1 := by rw [size_push', Heap.size_update]
  unfold ksk_tree
  refine wpAny_bind (listItems_at ho rfl (wpAny_bind (listUpdate_at ho rfl ?_ (by rw [List.size_toArray]; exact hZ) (Nat.zero_le _))))
  refine wpAny_bind (seqEpoch_at g1 rfl (wpAny_bind (wpAny_newTuple ?_ (by show vs.length ≤ _; exact hZ))))
  refine wpAny_bind (wpAny_newList (wpAny_holding ?_) (Nat.zero_le _))
  refine next e1 _ _ (by rw [z1]; exact Nat.ne_of_gt (Nat.lt_succ_of_lt la)) (by rw [z1]; exact Nat.le_succ _) (fun b o hb q => ?_) ⟨Heap.get?_push_of_some _ (Heap.get?_push_of_some _ g1), 0, Heap.get?_push_size _ rfl⟩
  exact Heap.get?_push_of_some _ (Heap.get?_push_of_some _ ((Heap.get?_update_ne _ _ _ _ hb).trans q))
theorem sortedK {l f : Addr} {vs : List Value} {Q : Value → Shared → Prop}
    (hcol : ∀ R : List Value → Shared → Prop, (∀ (h' : Heap) (tk : Nat), (∀ b o, s.heap.get? b = some o → h'.get? b = some o) → R vs { s with heap := h', toks := tk }) → wpAny (model prog w) A.in1 (collect (.ref l)) R E s) (hZ : vs.length ≤ sizeLine)
    (next : ∀ (h' : Heap) (a kS e1 : Addr) (h3 : Heap) (tk : Nat) (E' : Value → Shared → Prop), (∀ b o, s.heap.get? b = some o → h'.get? b = some o) → kS ≠ a → h'.objs.size ≤ a → h'.objs.size ≤ kS → (∀ b o, h'.get? b = some o → h3.get? b = some o) → Kst a kS e1 [] h3 →
      wpAny (model prog w) A.in1.in1 (ksk_rest a (.ref f) false vs.toArray e1 (.ref kS)) (fun fin s' => fin = .done (.ret .none) ∧ Q (.ref a) s') E' { s with heap := h3, toks := tk }) :
    wpAny (model prog w) A (call (.builtin "sorted") [.ref l] [(Str.ofString "key", .ref f)]) Q E s := by
  refine call_function_entry_kw kind_sorted plain_sorted entry_sorted (ksk_s1 _ _) ?_
  unfold Builtin.«sorted»
  refine wpAny_bind (m := checkCount "sorted" 1 1 _) (wpAny_pure (wpAny_bind (hcol _ fun h' tk k1 => wpAny_bind (wpAny_newList ?_ hZ))))
  have gL : (h'.push (seqObj "list" vs.toArray 0)).get? h'.objs.size = some (seqObj "list" vs.toArray 0) := Heap.get?_push_size _ rfl
  refine wpAny_bind (wpAny_holding (wpAny_call_entry_kw (s := { s with heap := h'.push (seqObj "list" vs.toArray 0), toks := tk }) slot_list_sort ⟨_, gL, rfl⟩ entry_list_sort ?_ (ksk_l1 _ _)))
  rw [ksk_t1]
  refine treeK (s := { s with heap := h'.push (seqObj "list" vs.toArray 0), toks := tk }) gL hZ fun e1 kS h3 hka hk3 kk st => ?_
  have up : ∀ b o, h'.get? b = some o → h3.get? b = some o := fun b o q => kk b o (Nat.ne_of_lt (Heap.lt_size q)) (Heap.get?_push_of_some _ q)
  have le3 : h'.objs.size ≤ kS := Nat.le_trans (by show h'.objs.size ≤ (h'.push _).objs.size; rw [size_push']; exact Nat.le_succ _) hk3
  refine wpAny_mono (next h' h'.objs.size kS e1 h3 tk _ k1 hka (Nat.le_refl _) le3 up st) (fun fin s' got => ?_) fun _ _ z => z
  obtain ⟨rfl, hq⟩ := got
  exact ⟨_, rfl, wpAny_pure ⟨_, rfl, hq⟩⟩
end
end L2.Lh

/-! a lambda with one parameter, of the frame that runs -/
namespace L2.Lh
open PySem PySem.Spec PyProof.Rows LamX
structure LamS1 (sc scope : Scope) (p : Str) : Prop where
  kind : scope.kind = .function
  co : scope.isCoroutine = false
  gen : scope.isGenerator = false
  own : ∀ y ∈ scope.names, y.2 ≠ .cell ∧ (y.2 = .local → y.1 = p)
  par : scope.names.lookup p = some .local
  free : ∀ y ∈ scope.names, y.2 = .free → sc.names.lookup y.1 = some .cell ∨ sc.names.lookup y.1 = some .free
def lamS1B (sc scope : Scope) (p : Str) : Bool :=
  decide (scope.kind = .function) && !scope.isCoroutine && !scope.isGenerator && (scope.names.all fun y => !decide (y.2 = .cell) && (!decide (y.2 = .local) || decide (y.1 = p)) && (!decide (y.2 = .free) || decide (sc.names.lookup y.1 = some .cell) || decide (sc.names.lookup y.1 = some .free))) && decide (scope.names.lookup p = some .local)
theorem lamS1_by {sc scope : Scope} {p : Str} (h : lamS1B sc scope p = true) : LamS1 sc scope p := by
  unfold lamS1B at h
  simp only [Bool.and_eq_true, Bool.or_eq_true, Bool.not_eq_true', decide_eq_true_eq, decide_eq_false_iff_not, List.all_eq_true] at h
  obtain ⟨⟨⟨⟨h1, h2⟩, h3⟩, h4⟩, h5⟩ := h
  refine ⟨h1, h2, h3, fun y hy => ⟨(h4 y hy).1.1, fun e => ?_⟩, h5, fun y hy e => ?_⟩
  · rcases (h4 y hy).1.2 with z | z
    · exact absurd e z
    · exact z
  · rcases (h4 y hy).2 with (z | z) | z
    · exact absurd e z
    · exact .inl z
    · exact .inr z
/-- the slots of its body: those of the frame, less a hidden one, and the parameter -/
structure NOk (N N' : List Str) (scope : Scope) (p : Str) : Prop where
  len : N'.length = N.length + 1
  last : N'[N.length]? = some p
  old : ∀ i y, i < N.length → N'[i]? = some y → Vis scope y → N[i]? = some y ∧ y ≠ p
def nOkB (N N' : List Str) (scope : Scope) (p : Str) : Bool :=
  decide (N'.length = N.length + 1) && decide (N'[N.length]? = some p) && (List.range N.length).all fun i => (decide (N'[i]? = N[i]?) && decide (N[i]? ≠ some p)) || (match N'[i]? with
    | some y => decide (scope.names.lookup y ≠ some .local) && decide (scope.names.lookup y ≠ some .cell) && decide (scope.names.lookup y ≠ some .free)
    | none => false)
theorem nOk_by {N N' : List Str} {scope : Scope} {p : Str} (h : nOkB N N' scope p = true) : NOk N N' scope p := by
  unfold nOkB at h
  simp only [Bool.and_eq_true, decide_eq_true_eq, List.all_eq_true, Bool.or_eq_true, List.mem_range] at h
  obtain ⟨⟨h1, h2⟩, h3⟩ := h
  refine ⟨h1, h2, fun i y hi e v => ?_⟩
  rcases h3 i hi with ⟨z1, z2⟩ | z
  · rw [z1] at e
    exact ⟨e, fun ep => z2 (by rw [e, ep])⟩
  · rw [e] at z
    simp only [Bool.and_eq_true, decide_eq_true_eq] at z
    rcases v with v | v | v
    · exact absurd v z.1.1
    · exact absurd v z.1.2
    · exact absurd v z.2
/-- the context of its body: the parameter is the last slot -/
def lamCx1 (X : Cx) (A : Around) (outer : List Env) (s : Shared) (H : Hp) (E : XK) (scope : Scope) (f c' : Addr) (N' : List Str) : Cx := { lamCx X A outer s H E scope f c' with N := N' }
section
variable {X : Cx} {pins : List (Addr × Obj)} {σ : L2.St} {H HZ : Hp} {s s1 : Shared}
theorem LamS1.has {sc scope : Scope} {p : Str} (L : LamS1 X.env.scope scope p) (ok : X.Ok) : ∀ y ∈ scope.names, y.2 = .free → ∃ c, X.env.cells.lookup y.1 = some c := fun y hy e => ok.has y.1 (L.free y hy e)
theorem lam_start1 {A : Around} {outer : List Env} {E : XK} {scope : Scope} {f c' : Addr} {p : Str} {N' : List Str} {u : Value} {v : V} {h₁ : Heap} {tk : Nat} (I : Inv X pins σ H s) (L : LamS1 X.env.scope scope p) (np : NOk X.N N' scope p) (e0 : Env0 X.prog X.w X.K X.mg X.base A outer s1 HZ) (hd : A.handled = none)
    (un : Un (frs X.stack) [] H HZ s.heap s1.heap) (hv : RelV v u) (hns : h₁.Ns s1.heap.objs.size fun y => ([(p, u)] : List (Str × Value)).reverse.lookup y) (kp : ∀ b o, s1.heap.get? b = some o → h₁.get? b = some o) :
    Inv (lamCx1 X A outer s1 HZ E scope f c' N') [] (σ ++ [some v]) HZ { s1 with heap := h₁, toks := tk } := by
  have hfree : ∀ y ∈ scope.names, y.2 = .free → ∃ c, X.env.cells.lookup y.1 = some c := fun y hy e => I.ok.has y.1 (L.free y hy e)
  have cm : ∀ {y c}, (cloFrom X.env.cells scope.names []).lookup y = some c → X.env.cells.lookup y = some c := fun {y c} e => by
    rcases cloFrom_mem (PySem.mem_of_lookup e) with hm | ⟨h1, h2⟩
    · cases hm
    · obtain ⟨c1, hc⟩ := hfree _ h1 rfl
      have hc : X.env.cells.lookup y = some c1 := hc
      have e2 : c = c1 := by
        rw [h2, hc] <;> rfl
      rw [e2]; exact hc
  have look : ∀ {y}, scope.names.lookup y = some .free → ∃ c, (cloFrom X.env.cells scope.names []).lookup y = some c := fun {y} hl =>
    mem_lookup (cloFrom_has (cells := X.env.cells) (acc := []) (show (y, NameKind.free) ∈ scope.names from PySem.mem_of_lookup hl))
  have cellK : ∀ {c : Addr} {v : Option Value}, H c = none → s.heap.IsCell c v → h₁.IsCell c v := fun {c v} n ⟨o, ho, hd⟩ => by
    obtain ⟨sl, q⟩ := un.any ho n (by simp)
    exact ⟨_, kp _ _ q, hd⟩
  have noA : ∀ b : Addr, b ∉ (lamCx1 X A outer s1 HZ E scope f c' N').ex := fun b z => absurd (show b ∈ ([] : List Addr) from z) (by simp)
  refine ⟨⟨e0.mod, L.kind, rfl, rfl, Nat.le_refl _, fun y z c e1 e2 => I.ok.inj y z c (cm e1) (cm e2), fun y hy => ?_, fun y c z _ => ?_, fun _ => hd, Around.frames_deeper e0.frames, .inr ⟨rfl, rfl⟩, fun b z => absurd z (noA b), e0.bs, e0.bsz, fun b _ _ => noA b,
      fun b z => absurd z (noA b), e0.funs, e0.frf⟩,
    rfl, e0.bare, Un.kept kp, ⟨_, hns, fun i y v' e1 e2 e3 => ?_⟩, fun y c e => ?_, e0.hok.fresh (Nat.le_refl _), fun y c e => ?_, fun q hq => absurd (show q ∈ ([] : List (Addr × Obj)) ++ [] from hq) (by simp), e0.hok.kept kp, ?_⟩
  · have hy : scope.names.lookup y = some .cell ∨ scope.names.lookup y = some .free := hy
    rcases hy with hy | hy
    · exact absurd rfl (L.own _ (PySem.mem_of_lookup hy)).1
    · exact look hy
  · have z : false = true := z
    cases z
  · have q1 : N'[i]? = some y := e1
    clear e1
    have e3 : Vis scope y := e3
    have len := I.len
    rcases Nat.lt_or_ge i X.N.length with hi | hi
    · obtain ⟨q1, ynp⟩ := np.old i y hi q1 e3
      rw [List.getElem?_append_left (by omega)] at e2
      rcases e3 with k | k | k
      · exact absurd ((L.own _ (PySem.mem_of_lookup k)).2 rfl) ynp
      · exact absurd rfl (L.own _ (PySem.mem_of_lookup k)).1
      · obtain ⟨m, hn, hl⟩ := I.loc
        have hvis : Vis X.env.scope y := (L.free _ (PySem.mem_of_lookup k) rfl).elim (fun k => .inr (.inl k)) (fun k => .inr (.inr k))
        obtain ⟨w', r, q⟩ := hl i y v' q1 e2 hvis
        obtain ⟨c2, h2⟩ := look k
        refine ⟨w', r, .inr ⟨.inr k, c2, h2, ?_⟩⟩
        have c1 := cm h2
        rcases q with ⟨k', _⟩ | ⟨_, c3, e', z⟩
        · have k' : X.env.scope.names.lookup y = some .local := k'
          rcases L.free _ (PySem.mem_of_lookup k) rfl with k2 | k2 <;> rw [show X.env.scope.names.lookup y = _ from k2] at k' <;> cases k'
        · rw [c1] at e'
          cases e'
          exact cellK (I.freeC y _ c1) z
    · rw [List.getElem?_append_right (by omega), show i - σ.length = i - X.N.length by rw [len]] at e2
      have hi2 : i < X.N.length + 1 := by rw [← np.len]; exact (List.getElem?_eq_some_iff.mp q1).1
      have ei : i = X.N.length := by omega
      subst ei
      rw [np.last] at q1
      rw [Nat.sub_self] at e2
      cases q1; cases e2
      refine ⟨u, hv, .inl ⟨L.par, ?_⟩⟩
      show List.lookup p ([(p, u)] : List (Str × Value)).reverse = some u
      simp [List.lookup]
  · obtain ⟨w', z⟩ := I.cell y c (cm e)
    exact ⟨w', cellK (I.freeC y c (cm e)) z⟩
  · obtain ⟨v, o, ho, hd⟩ := I.cell y c (cm e)
    exact un.free c o ho (I.freeC y c (cm e)) (by simp)
  · show (σ ++ [some v]).length = N'.length
    rw [List.length_append, I.len, np.len]; rfl
theorem RepEnv.snoc {K : PySem.W.Frag} {H : Hp} {d : D} {v : V} (r : Rep K H d v) : ∀ {ρ : DEnv} {σ : L2.St}, RepEnv K H ρ σ → RepEnv K H (ρ ++ [some d]) (σ ++ [some v])
  | _, _, .nil => .cons r .nil
  | _, _, .cons q t => .cons q (RepEnv.snoc r t)
/-- f(x): f one of our lambdas with one parameter, called by a built-in -/
theorem call1 {A : Around} {k : Nat} {params : Arguments} {body : Expr} {scope : Scope} {pm ctv : Value} {f c' : Addr} {p : Str} {N' : List Str} {hu : HO} {u : Value} {v : V} {tb : TE} {Q : VK} (sb : SubA X (k + 1) A) (I : Inv X pins σ H s) (L : LamS1 X.env.scope scope p) (np : NOk X.N N' scope p)
    (hff : H f = some (.frz (lamO X params body scope pm c' ctv) hu)) (codeC : H c' = some (CodeO c' (lamN X)))
    (hbind : ∀ u : Value, bindArgs (PySem.W.kla_fn "<lambda>" (lamN X) params body scope (cloFrom X.env.cells scope.names []) pm (.ref c') ctv) ⟨[u], []⟩ = pure [(p, u)])
    (hbody : Room k (A.deeper (lamEnv X scope s.heap.objs.size f c')) → PE (lamCx1 X A X.stack s H (fun _ _ _ => False) scope f c' N') body tb) (hv : RelV v u) (ht : tb (σ ++ [some v]) H Q) :
    wpAny (model X.prog X.w) A (call (.ref f) [u]) (EP X pins σ Q) (fun _ _ => False) s := by
  have e0 : Env0 X.prog X.w X.K X.mg X.base A X.stack s H := by
    have e := I.env0
    exact ⟨by rw [sb.fr]; exact e.frames, e.mod, e.bs, e.bsz, e.funs, e.frf, e.hok, e.bare⟩
  have objF : s.heap.get? f = some (lamO X params body scope pm c' ctv) := (I.hok f _ hff).1
  obtain ⟨⟨oc, vs, t, hoc, hdc, hvc⟩, _, _⟩ := I.hok c' _ codeC
  have runs : codeAny (model X.prog X.w) A (.call (.ref f) ⟨[u], []⟩) (CR (L2.CX X.prog X.w) X.stack X.prog X.w H s Q (fun _ _ _ => False)) s := by
    refine PySem.W.kla_callFunE sb.room.depth objF rfl L.co L.gen rfl ⟨c', oc, vs, t, rfl, hoc, hdc, hvc⟩ ?_
    rw [hbind]
    refine wpAny_pure (wpAny_newFunctionEnv (fun y hy => (L.own y hy).1) (fun y hy => by rw [List.mem_singleton] at hy; subst hy; exact L.par) (fun h₁ ns bt => ⟨I.nolimit.fresh _ bt, ?_⟩) L.kind)
    have old : ∀ b o, s.heap.get? b = some o → h₁.get? b = some o := fun b o e => bt.extBut b o (Nat.ne_of_lt (Heap.lt_size e)) (Heap.get?_push_of_some _ e)
    have J := lam_start1 (E := fun _ _ _ => False) (f := f) (c' := c') (tk := s.toks + ([(p, u)] : List (Str × Value)).length) I L np e0 sb.room.hd (Un.kept fun _ _ z => z) hv ns old
    show codeAny _ _ (.expr body (lamEnv X scope s.heap.objs.size f c')) _ _
    refine PySem.W.kla_codeExpr (wpAny_mono ((hbody (sb.room.deeper _)).run [] _ _ H Q J ht) (fun v s' got => ?_) fun e s' got => got)
    obtain ⟨w', H', J', rv, q⟩ := got
    exact ⟨w', H', J'.os, J'.bare, J'.base, J'.hok, rv, q⟩
  refine wpAny_call (codeAny_mono runs fun r s' got => ?_)
  match r, got with
  | .error e, got => obtain ⟨_, _, _, _, _, _, _, _, _, _, _, z⟩ := got; exact (by first | exact z.elim | exact z.2.elim | exact z.2.2.elim)
  | .ok (.ret u), got => exact I.after got
end
end L2.Lh

/-! sorted(e, key=lambda x: ..), the lambda of the frame that runs; e a list, or a dict of nested keys -/
namespace L2.Lh
open PySem PySem.Spec PyProof.Rows LamX
noncomputable section
def srcSK (d : D) (m : Mem) (q : List D → Mem → Prop) : Prop := match d with
  | .ref a => match m a with
    | some (.lst xs) => xs.length ≤ 1000 ∧ q xs m
    | some (.dN kvs) => kvs.length ≤ 1000 ∧ ∀ es ep ds, ds.map keyN = kvs.map (fun p => some p.1) → q ds (m.set a (.dR kvs es ep ds))
    | some (.dT kds) => kds.length ≤ 1000 ∧ ∀ es ep, q (kds.map Prod.fst) (m.set a (.dR (kvT kds) es ep (kds.map Prod.fst)))
    | _ => False
  | _ => False
def keysR (tb : DTE) (ρ : DEnv) (q : List D → Mem → Prop) : List D → List D → Mem → Prop
  | [], acc, m => q acc m
  | d :: r, acc, m => tb (ρ ++ [some d]) m fun k m2 => keysR tb ρ q r (acc ++ [k]) m2
def srtD (ds : List D) (ps : List PyData) : List D := ((ds.zip ps).mergeSort (PySem.W.dataLe false Prod.snd)).map Prod.fst
def keysEnd (ds : List D) (q : DQ) : List D → Mem → Prop := fun ks m => ∃ ps, pyYs (fun _ => none) ks = some ps ∧ PySem.W.AllAlike ps ∧ PySem.W.Sortable ps ∧ (∀ p ∈ ps, p.depth ≤ 50) ∧ ∀ a, m a = none → q (.ref a) (m.set a (.lst (srtD ds ps)))
def dSortBy (tk : DTA) (L : LamSyn) (nm : Str) (CL : List (Str × Addr)) (tb : DTE) (te : DTE) : DTE := fun ρ m q => te ρ m fun d m1 => tk ρ m1 fun zs m2 => ∃ f fr, zs = [.ref f] ∧ m2 f = some (.lam nm L fr CL) ∧ srcSK d m2 fun ds m3 => keysR tb ρ (keysEnd ds q) ds [] m3
theorem keysR_cons {tb : DTE} {ρ : DEnv} {q : List D → Mem → Prop} {d : D} {r acc : List D} {m : Mem} : keysR tb ρ q (d :: r) acc m = tb (ρ ++ [some d]) m fun k m2 => keysR tb ρ q r (acc ++ [k]) m2 := rfl
theorem readsAll_each {h : Heap} : ∀ {us : List Value} {ps : List PyData} {as : List Addr}, ReadsAll h us ps as → PySem.W.EachIs (fun v k => ∃ as, Reads h v k as) us ps
  | _, _, _, .nil => .nil
  | _, _, _, .cons a r => .cons ⟨_, a⟩ (readsAll_each r)
theorem gks_each {X : Cx} {s : Shared} {us : List Value} {ps : List PyData} (h : GKs X s us ps) : PySem.W.EachIs (fun v k => ∃ as, Reads s.heap v k as) us ps := by
  obtain ⟨as, r, _⟩ := h
  exact readsAll_each r
theorem two_each {α β : Type} {R : β → α → Prop} : ∀ {as : List α} {bs : List β}, Two (fun a b => R b a) as bs → PySem.W.EachIs R bs as
  | _, _, .nil => .nil
  | _, _, .cons r t => .cons r (two_each t)
theorem each_two {α β : Type} {R : β → α → Prop} : ∀ {bs : List β} {as : List α}, PySem.W.EachIs R bs as → Two (fun a b => R b a) as bs
  | _, _, .nil => .nil
  | _, _, .cons r t => .cons r (each_two t)
theorem pyYs_len {f : Addr → Option PyData} : ∀ {ds : List D} {ps : List PyData}, pyYs f ds = some ps → ps.length = ds.length
  | [], ps, h => by rw [pyYs] at h; cases h; rfl
  | d :: ds, ps, h => by
    rw [pyYs] at h
    cases e1 : pyY f d with
    | none => rw [e1] at h; simp at h
    | some p =>
      cases e2 : pyYs f ds with
      | none => rw [e1, e2] at h; simp at h
      | some rs => rw [e1, e2] at h; simp at h; subst h; simp [pyYs_len e2]
theorem map_fst_two {α γ : Type} {R : α → γ → Prop} : ∀ {bs : List (α × PyData)} {us : List γ}, Two (fun (x : α × PyData) u => R x.1 u) bs us → Two R (bs.map Prod.fst) us
  | _, _, .nil => .nil
  | _, _, .cons r t => .cons r (map_fst_two t)
theorem zip_two {α γ : Type} {R : α → γ → Prop} : ∀ {as : List α} {ps : List PyData} {us : List γ}, Two R as us → ps.length = as.length → Two (fun (x : α × PyData) u => R x.1 u) (as.zip ps) us
  | _, _, _, .nil, _ => by simp; exact .nil
  | _, [], _, .cons _ _, h => by simp at h
  | _, p :: ps, _, .cons r t, h => .cons r (zip_two t (by simpa using h))
section
variable {X : Cx}
theorem rep_at {K : PySem.W.Frag} {H : Hp} : ∀ {ds : List D} {zs : List V} {j : Nat} {d : D} {z : V}, Reps K H ds zs → ds[j]? = some d → zs[j]? = some z → Rep K H d z
  | _, _, 0, _, _, .cons r _, h1, h2 => by simp at h1 h2; subst h1 h2; exact r
  | _, _, j + 1, _, _, .cons _ t, h1, h2 => rep_at (j := j) t (by simpa using h1) (by simpa using h2)
  | _, _, _, _, _, .nil, h1, _ => by simp at h1
theorem val_at : ∀ {zs : List V} {vs : List Value} {j : Nat} {z : V} {v : Value}, Vals zs vs → zs[j]? = some z → vs[j]? = some v → RelV z v
  | _, _, 0, _, _, .cons r _, h1, h2 => by simp at h1 h2; subst h1 h2; exact r
  | _, _, j + 1, _, _, .cons _ t, h1, h2 => val_at (j := j) t (by simpa using h1) (by simpa using h2)
  | _, _, _, _, _, .nil, h1, _ => by simp at h1
abbrev lCx (X : Cx) (A : Around) (outer : List Env) (s : Shared) (H : Hp) (scope : Scope) (f c' : Addr) (N' : List Str) : Cx := lamCx1 X A outer s H (fun _ _ _ => False) scope f c' N'
structure LamBody1 (X : Cx) (k : Nat) (L : LamSyn) (p : Str) (N' : List Str) (tb : DTE) : Prop where
  ls : LamS1 X.env.scope L.scope p
  np : NOk X.N N' L.scope p
  bind : ∀ (q : Str) (cl : List (Str × Addr)) (pm cv ctv u : Value), bindArgs (PySem.W.kla_fn "<lambda>" q L.params L.body L.scope cl pm cv ctv) ⟨[u], []⟩ = pure [(p, u)]
  body : ∀ (A : Around) (s : Shared) (H : Hp) (f c' : Addr) (B' : Bs), Room k (A.deeper (lamEnv X L.scope s.heap.objs.size f c')) → Takes (lCx X A X.stack s H L.scope f c' N') (upW X.K B' fun _ _ _ => False) → DE B' (lCx X A X.stack s H L.scope f c' N') L.body tb
theorem sort_run {pins : List (Addr × Obj)} {σ : L2.St} {H : Hp} {s : Shared} {k : Nat} {L : LamSyn} {p : Str} {N' : List Str} {tb : DTE} {ρ : DEnv} {m : Mem} {q : DQ} {Q : VK} {f a : Addr} {fr : List Str} {ds : List D} {zs : List V} {vs : List Value} (lb : LamBody1 X k L p N' tb) (hr : Room (k + 3) X.A) (I : Inv X pins σ H s)
    (env : RepEnv X.K H ρ σ) (sim : Sim X.K H m) (hf : m f = some (.lam (lamN X) L fr X.env.cells)) (rd : Reps X.K H ds zs) (rv : Vals zs vs) (hz : vs.length ≤ 1000) (hk : keysR tb ρ (keysEnd ds q) ds [] m) (post : PostE X.K H m q Q)
    (hcol : ∀ R : List Value → Shared → Prop, (∀ (h' : Heap) (tk : Nat), (∀ b o, s.heap.get? b = some o → h'.get? b = some o) → R vs { s with heap := h', toks := tk }) → wpAny (model X.prog X.w) X.A.in1 (collect (.ref a)) R X.xe s) :
    wpAny (model X.prog X.w) X.A (call (.builtin "sorted") [.ref a] [(Str.ofString "key", .ref f)]) (EP X pins σ Q) X.xe s := by
  obtain ⟨⟨pm', ctv, c', hff, codeC⟩, _⟩ := sim f _ hf
  have hZ : vs.length ≤ sizeLine := by have := sizeLine_eq; omega
  have l1 := rd.length
  have l2 := rv.length
  refine sortedK hcol hZ fun h' b kS e1 h3 tk E' k1 hka lb1 lk up st => ?_
  have I1 : Inv X pins σ H { s with heap := h', toks := tk } := I.kept k1
  have I3 : Inv X pins σ H { s with heap := h3, toks := tk } := I.kept fun b o z => up b o (k1 b o z)
  have fresh : ∀ c, h'.objs.size ≤ c → X.s_0.heap.objs.size ≤ c ∧ c ≠ X.env.locals ∧ c ∉ X.fs ∧ (∀ x e, X.env.cells.lookup x = some e → e ≠ c) ∧ (∀ p ∈ X.pn ++ pins, p.1 ≠ c) := fun c hc => by
    refine ⟨Nat.le_trans I1.sz hc, Nat.ne_of_gt (Nat.lt_of_lt_of_le I1.lt hc), I1.nofs hc, fun x e he => ?_, fun p hp => ?_⟩
    · obtain ⟨v, ob, ho, _⟩ := I1.cell x e he
      exact Nat.ne_of_lt (Nat.lt_of_lt_of_le (Heap.lt_size ho) hc)
    · exact Nat.ne_of_lt (Nat.lt_of_lt_of_le (Heap.lt_size (I1.pin p hp).1) hc)
  obtain ⟨fa1, fa2, fa3, fa4, fa5⟩ := fresh b lb1
  obtain ⟨fk1, fk2, fk3, fk4, fk5⟩ := fresh kS lk
  have pin2 : ∀ {σ' : L2.St} {H' : Hp} {s' : Shared} {ks : List Value} {e : Nat}, Inv X pins σ' H' s' → H' b = none → H' kS = none → s'.heap.get? b = some (seqObj "list" #[] e1) → s'.heap.get? kS = some (seqObj "list" ks.toArray e) → Inv X (pins ++ [(b, seqObj "list" #[] e1), (kS, seqObj "list" ks.toArray e)]) σ' H' s' := fun J n1 n2 g1 g2 => J.pins_of fun p hp => by
    rcases List.mem_append.mp hp with hp | hp
    · exact J.pin p (List.mem_append_right _ hp)
    · simp only [List.mem_cons, List.not_mem_nil, or_false] at hp
      rcases hp with rfl | rfl
      · exact ⟨g1, n1, fa2, fa3, fun v z => nomatch z⟩
      · exact ⟨g2, n2, fk2, fk3, fun v z => nomatch z⟩
  have sb : SubA X (k + 1) X.A.in1.in1 := ⟨hr.in1.in1, rfl⟩
  refine restK hka hZ (fun j ks s' => ∃ H' m' zk acc e, Inv X (pins ++ [(b, seqObj "list" #[] e1), (kS, seqObj "list" ks.toArray e)]) σ H' s' ∧ ks.length = j ∧ Sim X.K H' m' ∧ Step H m H' m' ∧ Reps X.K H' acc zk ∧ Vals zk ks ∧ keysR tb ρ (keysEnd ds q) (ds.drop j) acc m')
    ?_ (fun j ks s' ⟨H', m', zk, acc, e, J, hl, _⟩ => ⟨⟨(J.pin (b, _) (by simp)).1, e, (J.pin (kS, _) (by simp)).1⟩, hl⟩) (fun j v ks s' hv ⟨H', m', zk, acc, e, J, hl, sm, t, ra, va, hk'⟩ => ?_) fun ks s' ⟨H', m', zk, acc, e, J, hl, sm, t, ra, va, hk'⟩ => ?_
  · obtain ⟨ga, e, gk⟩ := st
    exact ⟨H, m, [], [], e, pin2 I3 (I1.hok.fresh lb1) (I1.hok.fresh lk) ga gk, rfl, sim, Step.refl _ _, .nil, .nil, hk⟩
  · have hj : j < vs.length := (List.getElem?_eq_some_iff.mp hv).1
    obtain ⟨d, ed⟩ : ∃ d, ds[j]? = some d := ⟨_, List.getElem?_eq_getElem (by omega)⟩
    obtain ⟨z, ez⟩ : ∃ z, zs[j]? = some z := ⟨_, List.getElem?_eq_getElem (by omega)⟩
    have rdz : Rep X.K H d z := rep_at rd ed ez
    have rvz : RelV z v := val_at rv ez hv
    have edrop : ds.drop j = d :: ds.drop (j + 1) := by
      rw [List.drop_eq_getElem_cons (by omega)]
      congr 1
      exact Option.some.inj ((List.getElem?_eq_getElem (by omega)).symm.trans ed)
    rw [edrop, keysR_cons] at hk'
    refine wpAny_mono (call1 (k := k) (tb := upE X.K ⟨H', m'⟩ tb) (Q := fun zk' H2 => ∃ kd m2, Rep X.K H2 kd zk' ∧ Sim X.K H2 m2 ∧ Step H' m' H2 m2 ∧ keysR tb ρ (keysEnd ds q) (ds.drop (j + 1)) (acc ++ [kd]) m2) sb J lb.ls lb.np (t.ext.frz _ _ _ hff) (t.ext.cod _ _ codeC) (fun u => lb.bind _ _ _ _ _ u)
      (fun room => lb.body _ _ _ _ _ _ room ((takes_of rfl rfl rfl rfl).imp fun cls d σ H ⟨_, _, _, _, _, z⟩ => z)) rvz ⟨_, _, _, ⟨(env.mono t.ext).snoc (rdz.mono t.ext), sm, Step.refl _ _⟩, hk', fun kd m2 zk' H2 h2 r2 s2 t2 => ⟨kd, m2, r2, s2, t2, h2⟩⟩) (fun u s2 got => ?_) fun _ _ z => z
    obtain ⟨zk', H2, J2, rv2, kd, m2, r2, sm2, t2, h2⟩ := got
    refine ⟨⟨(J2.pin (b, _) (by simp)).1, e, (J2.pin (kS, _) (by simp)).1⟩, fun h4 kp ⟨e4, gk4⟩ => ?_⟩
    have n1 := (J2.pin (b, seqObj "list" #[] e1) (by simp)).2.1
    have n2 := (J2.pin (kS, seqObj "list" ks.toArray e) (by simp)).2.1
    have J3 : Inv X pins σ H2 { s2 with heap := h4, toks := s2.toks } := J2.unpinned.moveS (bs := [kS]) (fun c hc => by rw [List.mem_singleton] at hc; subst hc; exact ⟨n2, fk1, fk2, fk4, fk5⟩) fun c u hc => kp c u (by simpa using hc)
    refine ⟨H2, m2, zk ++ [zk'], acc ++ [kd], e4, pin2 J3 n1 n2 (kp _ _ hka.symm (J2.pin (b, _) (by simp)).1) gk4, by rw [List.length_append, hl]; rfl, sm2, t.trans t2, ?_, ?_, h2⟩
    · exact (ra.mono t2.ext).append (.cons r2 .nil)
    · exact va.append (.cons rv2 .nil)
  · rw [List.drop_of_length_le (by omega)] at hk'
    obtain ⟨ps, ep, hal, hsk, hdp, hq⟩ := hk'
    have gk := pyYs_ok J (f := fun _ => none) (fun _ _ z => nomatch z) ra ep va
    have plen : ps.length = vs.length := by rw [pyYs_len ep, ra.length, va.length, hl]
    refine ⟨ps, plen, gks_each gk, hal, hsk, fun d hd => ?_, fun h4 tk4 c out kp na ko => ⟨rfl, ?_⟩⟩
    · have h1 := hdp d hd
      have h2 := hr.un
      show X.A.units + 1 + 1 + d.depth < cLine
      omega
    have n1 := (J.pin (b, seqObj "list" #[] e1) (by simp)).2.1
    have n2 := (J.pin (kS, seqObj "list" ks.toArray e) (by simp)).2.1
    have J4 : Inv X pins σ H' { s' with heap := h4, toks := tk4 } := J.unpinned.moveS (bs := [b, kS]) (fun c hc => by
      simp only [List.mem_cons, List.not_mem_nil, or_false] at hc
      rcases hc with rfl | rfl
      · exact ⟨n1, fa1, fa2, fa4, fa5⟩
      · exact ⟨n2, fk1, fk2, fk4, fk5⟩) fun c u hc => kp c u (fun z => hc (by rw [z]; simp)) fun z => hc (by rw [z]; simp)
    have two : Two (RepU X.K H') ds vs := repU_of (rd.mono t.ext) rv
    have each : PySem.W.EachIs (fun v (x : D × PyData) => RepU X.K H' x.1 v) vs (ds.zip ps) := two_each (zip_two (R := RepU X.K H') two (by omega))
    have emap : (ds.zip ps).map Prod.snd = ps := List.map_snd_zip (by omega)
    have eo := PySem.W.keyedOut_each (rev := false) (k := Prod.snd) (bs := ds.zip ps) (by rw [emap]; exact ko) each
    have two2 : Two (RepU X.K H') (srtD ds ps) out := map_fst_two (each_two eo)
    obtain ⟨zo, r1, r2⟩ := repU_to two2
    have olen : out.length ≤ sizeLine := by
      have := ko.length (by rw [plen])
      omega
    have zl : zo.length ≤ sizeLine := by have := r2.length; omega
    have J5 := track (o := .lst zo) J4 (Heap.get?_none_of_le fa1) n1 fa2 fa4 fa5 ⟨zl, out, c, r2, na⟩
    have ma : m' b = none := sm.free n1
    exact ⟨.ref b, _, J5, rfl, post (.ref b) (m'.set b (.lst (srtD ds ps))) _ _ (hq b ma) (.ref b) (sm.allocM n1 ⟨zo, upd_same, r1.mono (upd_new n1)⟩) (t.trans (Step.allocM n1))⟩
theorem de_sortBy {B : Bs} {k : Nat} {L : LamSyn} {p : Str} {N' : List Str} {tb te : DTE} {tk : DTA} {e : Expr} {kws : List Keyword} {p1 pos : Pos} (hm : X.mg "sorted" = none) (hc : X.calm = true) (hr : Room (k + 3) X.A) (lb : LamBody1 X k L p N' tb) (he : DE B X e te) (hk : DK B X kws tk)
    (hg : Gl X "sorted" := by rfl) (hse : starEach [e] X.env = [(false, eval e X.env)] := by rfl) (hbk : backTo pos (starEach [e] X.env) = (false, eval e X.env) :: backTo pos (starEach [] X.env) := by rfl) (hpl : (backTo pos (starEach [e] X.env)).any (·.1) = false := by rfl)
    (hall : (backToKw pos (keywordEach kws X.env)).all (·.1.isSome) = true := by rfl) (hnone : (backToKw pos (keywordEach kws X.env)).any (·.1.isNone) = false := by rfl) (hks : (backToKw pos (keywordEach kws X.env)).filterMap (·.1) = [Str.ofString "key"] := by rfl) :
    DE B X (.Call (.Name "sorted" p1) [e] kws pos) (dSortBy tk L (lamN X) X.env.cells tb te) := by
  refine ⟨fun pins s σ H Q I ⟨ρ, m, q, pre, hte, post⟩ => ?_⟩
  refine wpAny_Call_Name_kw (ld_blt I hg hm (show bootBuiltins (Str.ofString "sorted") = some (.builtin "sorted") by decide +kernel) ?_ (by decide) (by decide))
  have ha : DA B X [e] (dCons te dNil) := da_cons he da_nil (hs := hse)
  refine PyProof.Rows.callWith_kw (thn (ha.run pos pins s σ H (fun vs H1 => ∃ d z m1, vs = [z] ∧ Rep X.K H1 d z ∧ Sim X.K H1 m1 ∧ Step H m H1 m1 ∧ tk ρ m1 fun zs m2 => ∃ f fr, zs = [.ref f] ∧ m2 f = some (.lam (lamN X) L fr X.env.cells) ∧ srcSK d m2 fun ds m3 => keysR tb ρ (keysEnd ds q) ds [] m3) I
    ⟨ρ, m, fun ds m1 => match ds with | [d] => tk ρ m1 fun zs m2 => ∃ f fr, zs = [.ref f] ∧ m2 f = some (.lam (lamN X) L fr X.env.cells) ∧ srcSK d m2 fun ds m3 => keysR tb ρ (keysEnd ds q) ds [] m3 | _ => False, pre, hte, fun ds m1 vs H1 h1 r1 s1 t1 => ?_⟩) fun us s1 ⟨vs, H1, I1, rv, d, z, m1, ez, rz, sm1, t1, htk⟩ => thn (hk.run pos pins s1 σ H1 (fun zs H2 => ∃ f fr m2, zs = [.ref f] ∧ Sim X.K H2 m2 ∧ Step H1 m1 H2 m2 ∧ m2 f = some (.lam (lamN X) L fr X.env.cells) ∧ srcSK d m2 fun ds m3 => keysR tb ρ (keysEnd ds q) ds [] m3) I1
    ⟨ρ, m1, _, pre.next sm1 t1, htk, fun ds m2 vs2 H2 h2 r2 s2 t2 => ?_⟩) fun ws s2 ⟨zs, H2, I2, rz2, f, fr, m2, ez2, sm2, t2, hf, hsrc⟩ => ?_) hbk hpl hall hnone
  · cases r1 with
    | nil => exact h1.elim
    | cons r rr =>
      cases rr with
      | nil => exact ⟨_, _, m1, rfl, r, s1, t1, h1⟩
      | cons _ _ => exact h1.elim
  · obtain ⟨f, fr, rfl, h3, h4⟩ := h2
    cases r2 with
    | cons r rr =>
      cases rr
      cases r
      exact ⟨f, fr, m2, rfl, s2, t2, h3, h4⟩
  · rw [hks]
    subst ez ez2
    cases rz2 with
    | @cons _ wf _ _ rf rr =>
    cases rr
    cases (show wf = Value.ref f from rf)
    cases rv with
    | @cons _ u _ _ ru rr =>
    cases rr
    unfold srcSK at hsrc
    cases d with
    | ref a =>
      cases rz
      cases (show u = Value.ref a from ru)
      dsimp only at hsrc
      have env2 : RepEnv X.K H2 ρ σ := (pre.env.mono t1.ext).mono t2.ext
      have post2 : ∀ {m3 : Mem}, Step H2 m2 H2 m3 → PostE X.K H2 m3 q Q := fun st3 d' m' v' H' h' r' s' t' => post d' m' v' H' h' r' s' (t1.trans (t2.trans (st3.trans t')))
      cases em : m2 a with
      | none => rw [em] at hsrc; exact hsrc.elim
      | some o =>
        rw [em] at hsrc
        cases o with
        | lst xs =>
          obtain ⟨h1000, hkeys⟩ := hsrc
          obtain ⟨zx, hz, rr⟩ := sm2 a _ em
          obtain ⟨vs, rv, pl, hz⟩ := I2.list (SqL.of hz)
          have el : vs.length = xs.length := by rw [← rv.length, ← rr.length]
          exact sort_run lb hr I2 env2 sm2 hf rr rv (by omega) hkeys (post2 (Step.refl _ _)) fun R hR => collect_list pl.isList (hR _ s2.toks fun b o e => by
            have hlt := Heap.lt_size e
            rw [Heap.get?_update_ne _ _ _ _ (Nat.ne_of_lt hlt)]
            exact Heap.get?_push_of_some _ e) (by rw [el, sizeLine_eq]; omega)
        | dN kvs =>
          obtain ⟨h1000, hkeys⟩ := hsrc
          obtain ⟨es, ep, xs, g1, g2⟩ := sm2 a _ em
          obtain ⟨ds, f1, f2⟩ := repN_forms g2.rel
          have hkeys := hkeys es ep ds f2
          have el : (xs.map fun x => Value.ref x.2.1).length = kvs.length := by rw [List.length_map, g2.rel.len]
          have nf : f ≠ a := fun z => by subst z; rw [em] at hf; cases hf
          refine sort_run (m := m2.set a (.dR kvs es ep ds)) (vs := xs.map fun x => Value.ref x.2.1) lb hr I2 env2 (sim_dR sm2 ⟨g1, xs, g2, f1⟩) (by rw [Mem.set_ne nf]; exact hf) f1 ?_ (by omega) hkeys (post2 (step_dR em)) fun R hR => ?_
          · exact vals_of_map (f := fun x : NestedKey × Addr × Value => V.ref x.2.1) fun x _ => rfl
          · refine PySem.W.kdu_collect (KdlSrc.rawDict g2.sys (es := es) (ep := ep)) (I2.ok.hd hc) (raw_of I2 g1) (by rw [rawN_size (P := X.prog) (w := X.w) g2]; exact g2.sz) fun h' tk acc hk hacc => ?_
            have ea : acc.toList = xs.map fun x => Value.ref x.2.1 := by
              have e0 : es.toList.map (·.key) = xs.map fun x => Value.ref x.2.1 := by rw [g2.ent X.prog X.w, List.map_map]; rfl
              rw [← e0]
              have hl : acc.toList.length = es.size := by rw [Array.length_toList]; exact hacc.1
              apply List.ext_getElem?
              intro j
              rw [List.getElem?_map]
              cases hj : acc.toList[j]? with
              | none =>
                have h1 := List.getElem?_eq_none_iff.mp hj
                rw [List.getElem?_eq_none (by rw [Array.length_toList]; omega)]
                rfl
              | some u =>
                obtain ⟨h2, rfl⟩ := hacc.2 j u (by rw [← Array.getElem?_toList]; exact hj)
                rw [List.getElem?_eq_getElem (by rw [Array.length_toList]; exact h2), Array.getElem_toList]
                rfl
            rw [ea]
            exact hR h' tk hk
        | dT kds =>
          obtain ⟨h1000, hkeys⟩ := hsrc
          obtain ⟨es, ep, xs, g1, g2, f1⟩ := sm2 a _ em
          have hkeys := hkeys es ep
          have el : (xs.map fun x => Value.ref x.2.1).length = kds.length := by rw [List.length_map, ← g2.rel.len]; exact List.length_map ..
          have nf : f ≠ a := fun z => by subst z; rw [em] at hf; cases hf
          refine sort_run (m := m2.set a (.dR (kvT kds) es ep (kds.map Prod.fst))) (vs := xs.map fun x => Value.ref x.2.1) lb hr I2 env2 (sim_dR sm2 ⟨g1, xs, g2, f1⟩) (by rw [Mem.set_ne nf]; exact hf) f1 ?_ (by omega) hkeys (post2 (step_dR em)) fun R hR => ?_
          · exact vals_of_map (f := fun x : NestedKey × Addr × Value => V.ref x.2.1) fun x _ => rfl
          · refine PySem.W.kdu_collect (KdlSrc.rawDict g2.sys (es := es) (ep := ep)) (I2.ok.hd hc) (raw_of I2 g1) (by rw [rawN_size (P := X.prog) (w := X.w) g2]; exact g2.sz) fun h' tk acc hk hacc => ?_
            have ea : acc.toList = xs.map fun x => Value.ref x.2.1 := by
              have e0 : es.toList.map (·.key) = xs.map fun x => Value.ref x.2.1 := by rw [g2.ent X.prog X.w, List.map_map]; rfl
              rw [← e0]
              have hl : acc.toList.length = es.size := by rw [Array.length_toList]; exact hacc.1
              apply List.ext_getElem?
              intro j
              rw [List.getElem?_map]
              cases hj : acc.toList[j]? with
              | none =>
                have h1 := List.getElem?_eq_none_iff.mp hj
                rw [List.getElem?_eq_none (by rw [Array.length_toList]; omega)]
                rfl
              | some u =>
                obtain ⟨h2, rfl⟩ := hacc.2 j u (by rw [← Array.getElem?_toList]; exact hj)
                rw [List.getElem?_eq_getElem (by rw [Array.length_toList]; exact h2), Array.getElem_toList]
                rfl
            rw [ea]
            exact hR h' tk hk
        | _ => exact hsrc.elim
    | _ => exact hsrc.elim
theorem de_keep1 {p : Str} {X : Cx} {B : Bs} {c P : Addr} {fr : List Str} {params : Arguments} {body : Expr} {scope : Scope} {pos : Pos} (TB : TabB X.base X.mg c P) (hcode : X.env.code = .ref c) (L : LamS1 X.env.scope scope p) (hdef : defaultsOf params X.env = ([], [])) (hfr : (cloFrom X.env.cells scope.names []).map (·.1) = fr) :
    DE B X (.Lambda params body scope pos) (dKeep P (lamN X) ⟨params, body, scope⟩ fr X.env.cells) := by
  refine ⟨fun pins s σ H Q I ⟨ρ, m, q, pre, ⟨hP, hq⟩, post⟩ => ?_⟩
  refine lam_make4 I TB hcode (pre.sim P _ hP) hdef (LamS1.has (sc := X.env.scope) L I.ok) fun f c' pm ctv H1 s' hsz I1 made tab objF nf nfr codeC => ?_
  obtain ⟨sim1, st1⟩ := made.sim pre.sim hP tab
  have sz0 : X.s_0.heap.objs.size ≤ f := Nat.le_trans I.sz hsz
  have h0 : X.s_0.heap.get? f = none := Heap.get?_none_of_le sz0
  have nL : f ≠ X.env.locals := Nat.ne_of_gt (Nat.lt_of_lt_of_le I.lt hsz)
  have nC : ∀ x c, X.env.cells.lookup x = some c → c ≠ f := fun x c e => by
    obtain ⟨v, ob, ho, _⟩ := I.cell x c e
    exact Nat.ne_of_lt (Nat.lt_of_lt_of_le (Heap.lt_size ho) hsz)
  have nP : ∀ p ∈ X.pn ++ pins, p.1 ≠ f := fun p hp => Nat.ne_of_lt (Nat.lt_of_lt_of_le (Heap.lt_size (I.pin p hp).1) hsz)
  have I2 := track (o := .frz (lamO X params body scope pm c' ctv) (.ext fun _ => True)) I1 h0 nf nL nC nP ⟨objF, trivial, ⟨_, objF⟩, fun _ _ _ _ => trivial⟩
  have hc : upd H1 f (.frz (lamO X params body scope pm c' ctv) (.ext fun _ => True)) c' = some (CodeO c' (lamN X)) := by
    rw [upd_ne (ne_of_none codeC nf)]; exact codeC
  exact ⟨.ref f, _, I2, rfl, post (.ref f) _ (.ref f) _ (hq f (sim1.free nf)) (.ref f) (sim1.allocM nf ⟨⟨pm, ctv, c', upd_same, hc⟩, hfr, LamS1.has (sc := X.env.scope) L I.ok⟩) (st1.trans (Step.allocM nf))⟩
theorem de_keep1F {p : Str} {X : Cx} {B : Bs} {nm : Str} {c P : Addr} {fr : List Str} {params : Arguments} {body : Expr} {scope : Scope} {pos : Pos} (TB : TabB X.base X.mg c P) (hcode : X.env.code = .ref c) (L : LamS1 X.env.scope scope p) (hdef : defaultsOf params X.env = ([], []) := by rfl) (hfr : (cloFrom X.env.cells scope.names []).map (·.1) = fr := by rfl) (hnm : lamN X = nm := by rfl) :
    DE B X (.Lambda params body scope pos) (dKeep P nm ⟨params, body, scope⟩ fr X.env.cells) := by
  subst hnm
  exact de_keep1 TB hcode L hdef hfr
theorem de_sortByF {B : Bs} {k : Nat} {L : LamSyn} {p nm : Str} {N' : List Str} {tb te : DTE} {tk : DTA} {e : Expr} {kws : List Keyword} {p1 pos : Pos} (hm : X.mg "sorted" = none) (hc : X.calm = true) (hr : Room (k + 3) X.A) (lb : LamBody1 X k L p N' tb) (he : DE B X e te) (hk : DK B X kws tk)
    (hnm : lamN X = nm := by rfl) (hg : Gl X "sorted" := by rfl) (hse : starEach [e] X.env = [(false, eval e X.env)] := by rfl) (hbk : backTo pos (starEach [e] X.env) = (false, eval e X.env) :: backTo pos (starEach [] X.env) := by rfl) (hpl : (backTo pos (starEach [e] X.env)).any (·.1) = false := by rfl)
    (hall : (backToKw pos (keywordEach kws X.env)).all (·.1.isSome) = true := by rfl) (hnone : (backToKw pos (keywordEach kws X.env)).any (·.1.isNone) = false := by rfl) (hks : (backToKw pos (keywordEach kws X.env)).filterMap (·.1) = [Str.ofString "key"] := by rfl) :
    DE B X (.Call (.Name "sorted" p1) [e] kws pos) (dSortBy tk L nm X.env.cells tb te) := by
  subst hnm
  exact de_sortBy hm hc hr lb he hk hg hse hbk hpl hall hnone hks
end
end
end L2.Lh

/-! max(d.values()), max(d.values(), default=i), max([..], default=i): whole numbers -/
namespace L2.Lh
open PySem PySem.Spec PyProof.Rows LamX
section
open PySem.W
variable {prog : Program} {w : World} {A : Around} {E : Value → Shared → Prop} {s : Shared}
theorem best_of {ns : List Int} {n : Nat} (hn : n = ns.length) (h0 : 0 < n) : ns.getD (argBest (fun i j => decide (ns.getD i 0 > ns.getD j 0)) (n - 1)) 0 ∈ ns ∧ ∀ y ∈ ns, y ≤ ns.getD (argBest (fun i j => decide (ns.getD i 0 > ns.getD j 0)) (n - 1)) 0 := by
  obtain ⟨m1', m2'⟩ := argBest_gt (fun i => ns.getD i 0) (n - 1)
  have m1 : argBest (fun i j => decide (ns.getD i 0 > ns.getD j 0)) (n - 1) ≤ n - 1 := m1'
  have m2 : ∀ j, j ≤ n - 1 → ns.getD j 0 ≤ ns.getD (argBest (fun i j => decide (ns.getD i 0 > ns.getD j 0)) (n - 1)) 0 := m2'
  refine ⟨PySem.getD_mem (by omega), fun y hy => ?_⟩
  obtain ⟨j, hj, e⟩ := List.mem_iff_getElem.mp hy
  have z := m2 j (by omega)
  have e3 : ns.getD j 0 = y := by rw [List.getD_eq_getElem?_getD, List.getElem?_eq_getElem hj, ← e] <;> rfl
  rw [e3] at z
  exact z
theorem cmpIn_ints {H : Heap} {P : Nat → Value → Prop} (val : Nat → Int) (hval : ∀ i v, P i v → ∃ t, v = .int (val i) t) : CmpIn prog w A .Gt H P (fun i j => decide (val i > val j)) :=
  fun i j vi vj s Q E _ h1 h2 h => CmpOf.ints_gt val hval i j vi vj s Q E h1 h2 h
/-- the greatest of the values -/
def MaxOf (ns : List Int) (dflt : Option Int) (mx : Int) : Prop := (ns = [] ∧ dflt = some mx) ∨ (mx ∈ ns ∧ ∀ y ∈ ns, y ≤ mx)
theorem max_src {r d : Addr} {n : Nat} {T : String} {P : Nat → Value → Prop} {OK : Heap → Prop} {ns : List Int} {kw : List (Str × Value)} {dflt : Option Int} {Q : Value → Shared → Prop} (K : KdlSrc prog w T r d n P OK) (hh : A.handled = none) (hok : OK s.heap) (hn : n = ns.length)
    (hval : ∀ (i : Nat) (v : Value), P i v → ∃ t : Tok, v = Value.int (ns.getD i 0) t) (hkw : (kw = [] ∧ dflt = none ∧ ns ≠ []) ∨ ∃ i t, kw = [(Str.ofString "default", Value.int i t)] ∧ dflt = some i)
    (h : ∀ (h' : Heap) (tk : Nat) (t' : Tok) (mx : Int), (∀ b o, s.heap.get? b = some o → h'.get? b = some o) → MaxOf ns dflt mx → Q (.int mx t') { s with heap := h', toks := tk }) :
    wpAny (model prog w) A (call (.builtin "max") [.ref r] kw) Q E s := by
  obtain ⟨oI, St, hit, W, st⟩ := K.iter A.in1 s hh hok
  have fp : ∀ b ∈ [s.heap.objs.size, d], b < (s.heap.push oI).objs.size := fun b hb => by
    rw [size_push']
    rcases List.mem_cons.mp hb with e | hb
    · rw [e]; exact Nat.lt_succ_self _
    · rw [List.mem_singleton.mp hb]; exact Nat.lt_succ_of_lt (K.there _ hok).2
  have kp : ∀ {G : Array GenState → Array GenState → Prop} {s' : Shared}, Moved [s.heap.objs.size] G { s with heap := s.heap.push oI } s' → ∀ b o, s.heap.get? b = some o → s'.heap.get? b = some o := fun hm b o e =>
    hm.heap b o (fun hI => absurd (Heap.lt_size e) (by rw [List.mem_singleton.mp hI]; exact Nat.lt_irrefl _)) (Heap.get?_push_of_some _ e)
  have out : ∀ v s', P (argBest (fun i j => decide (ns.getD i 0 > ns.getD j 0)) (n - 1)) v → 0 < n → Moved [s.heap.objs.size] (fun a b => b = a) { s with heap := s.heap.push oI } s' → Q v s' := fun v s' hv h0 hm => by
    obtain ⟨t, rfl⟩ := hval _ _ hv
    obtain ⟨b1, b2⟩ := best_of hn h0
    rw [Moved.eq_with hm]
    exact h s'.heap s'.toks t _ (kp hm) (.inr ⟨b1, b2⟩)
  have hw : ∀ b o, s.heap.get? b = some o → b ∉ [s.heap.objs.size] := fun b o e z => by rw [List.mem_singleton.mp z] at e; exact absurd (Heap.lt_size e) (Nat.lt_irrefl _)
  rcases hkw with ⟨rfl, rfl, hne⟩ | ⟨i, t, rfl, rfl⟩
  · have h0 : 0 < n := by rw [hn]; exact List.length_pos_iff.mpr hne
    refine call_max_walkH (hit _ _ ⟨s.heap.objs.size, _, _, _, n, P, _, s.heap, fun i j => decide (ns.getD i 0 > ns.getD j 0), rfl, W.toS, st, fp, h0, hw, fun b o e => Heap.get?_push_of_some _ e, cmpIn_ints _ hval, fun v s' hv hm => out v s' hv h0 hm⟩)
  · refine call_max_walkD (hit _ _ ⟨s.heap.objs.size, _, _, _, n, P, _, s.heap, fun i j => decide (ns.getD i 0 > ns.getD j 0), rfl, W.toS, st, fp, hw, fun b o e => Heap.get?_push_of_some _ e, fun h0 s' hm => ?_, fun h0 => ⟨cmpIn_ints _ hval, fun v s' hv hm => out v s' hv h0 hm⟩⟩)
    rw [Moved.eq_with hm]
    exact h s'.heap s'.toks t i (kp hm) (.inl ⟨List.length_eq_zero_iff.mp (by omega), rfl⟩)
end
theorem paired_at {α β : Type} {R : α → β → Prop} : ∀ {as : List α} {bs : List β} {i : Nat} {a : α} {b : β}, Paired R as bs → as[i]? = some a → bs[i]? = some b → R a b
  | _, _, 0, _, _, .cons r _, h1, h2 => by simp at h1 h2; subst h1 h2; exact r
  | _, _, i + 1, _, _, .cons _ t, h1, h2 => paired_at (i := i) t (by simpa using h1) (by simpa using h2)
  | _, _, _, _, _, .nil, h1, _ => by simp at h1
/-- the dict at a has these values -/
def valsI (m : Mem) (a : Addr) (ns : List Int) : Prop := (∃ kvs, m a = some (.dK kvs) ∧ kvs.map (·.2) = ns.map D.int) ∨ ∃ kvs, m a = some (.dN kvs) ∧ kvs.map (·.2) = ns.map D.int
def dMaxV (df : Bool) (tk : DTA) (te : DTE) : DTE := fun ρ m q => te ρ m fun d m1 => (∃ a, d = .ref a ∧ ((∃ kvs, m1 a = some (.dK kvs)) ∨ ∃ kvs, m1 a = some (.dN kvs))) ∧ tk ρ m1 fun zs m2 => ∃ a ns dflt, d = .ref a ∧ valsI m2 a ns ∧ ((df = false ∧ zs = [] ∧ dflt = none ∧ ns ≠ []) ∨ ∃ i, df = true ∧ zs = [.int i] ∧ dflt = some i) ∧ ∀ mx, MaxOf ns dflt mx → q (.int mx) m2
abbrev viewOb (a : Addr) : Obj := { cls := .type "dict_values", data := .fields #[.ref a] }
section
variable {X : Cx}
/-- a dict, raw, with its values -/
theorem rawOfD {pins : List (Addr × Obj)} {σ : L2.St} {H : Hp} {s : Shared} {m : Mem} {a : Addr} (I : Inv X pins σ H s) (sim : Sim X.K H m) (h : (∃ kvs, m a = some (.dK kvs)) ∨ ∃ kvs, m a = some (.dN kvs)) :
    (a == sysModules) = false ∧ ∃ es ep, s.heap.DictRaw a es ep := by
  rcases h with ⟨kvs, h⟩ | ⟨kvs, h⟩
  · obtain ⟨kv, e, _⟩ := sim a _ h
    obtain ⟨_, hs, vs, _, x⟩ := dk_of I.hok e
    obtain ⟨es, ep, r, _⟩ := x.raw
    exact ⟨hs, es, ep, r⟩
  · obtain ⟨es, ep, xs, g1, g2⟩ := sim a _ h
    exact ⟨g2.sys, es, ep, raw_of I g1⟩
theorem rep_int {K : PySem.W.Frag} {H : Hp} {i : Int} {v : V} {u : Value} (r : Rep K H (.int i) v) (h : RelV v u) : ∃ t : Tok, u = .int i t := by
  cases r
  exact h
theorem rawVals {pins : List (Addr × Obj)} {σ : L2.St} {H : Hp} {s : Shared} {m : Mem} {a : Addr} {ns : List Int} (I : Inv X pins σ H s) (sim : Sim X.K H m) (h : valsI m a ns) :
    ∃ es ep, s.heap.DictRaw a es ep ∧ es.size = ns.length ∧ ∀ i (hi : i < es.size), ∃ t : Tok, es[i].val = .int (ns.getD i 0) t := by
  rcases h with ⟨kvs, h, e2⟩ | ⟨kvs, h, e2⟩
  · obtain ⟨kv, e, q⟩ := sim a _ h
    obtain ⟨_, hs, vs, kvr, x⟩ := dk_of I.hok e
    obtain ⟨es, ep, r, z, hv⟩ := x.raw
    have l1 := q.length
    have l2 := kvr.length
    have l3 := congrArg List.length e2
    rw [List.length_map, List.length_map] at l3
    refine ⟨es, ep, r, by omega, fun i hi => ?_⟩
    have i1 : i < kvs.length := by omega
    have i2 : i < kv.length := by omega
    have i3 : i < vs.length := by omega
    have i4 : i < ns.length := by omega
    have ev := (hv i hi vs[i].1 vs[i].2 (List.getElem?_eq_getElem i3)).2
    have p1 := paired_at q (List.getElem?_eq_getElem i1) (List.getElem?_eq_getElem i2)
    have p2 := paired_at kvr (List.getElem?_eq_getElem i2) (List.getElem?_eq_getElem i3)
    have e3 : kvs[i].2 = .int ns[i] := by
      have z : (kvs.map (·.2))[i]? = (ns.map D.int)[i]? := by rw [e2]
      rw [List.getElem?_map, List.getElem?_map, List.getElem?_eq_getElem i1, List.getElem?_eq_getElem i4] at z
      exact Option.some.inj z
    rw [ev, show ns.getD i 0 = ns[i] by rw [List.getD_eq_getElem?_getD, List.getElem?_eq_getElem i4] <;> rfl]
    have r1 : Rep X.K H (.int ns[i]) kv[i].2 := by rw [← e3]; exact p1.2
    exact rep_int r1 p2.2
  · obtain ⟨es, ep, xs, g1, g2⟩ := sim a _ h
    obtain ⟨zs, h1, h2⟩ := repN_vals g2.rel
    rw [e2] at h1
    have ev := rawN_vals (P := X.prog) (w := X.w) g2
    have ez := rawN_size (P := X.prog) (w := X.w) g2
    have l1 := h1.length
    have l2 := h2.length
    rw [List.length_map] at l1 l2
    refine ⟨es, ep, raw_of I g1, by omega, fun i hi => ?_⟩
    have i4 : i < ns.length := by omega
    have e4 : es[i].val = ((xs.map (·.2.2))[i]'(by rw [List.length_map]; omega)) := by
      have z : (es.toList.map (·.val))[i]? = (xs.map (·.2.2))[i]? := by rw [ev]
      rw [List.getElem?_map, List.getElem?_eq_getElem (by rw [Array.length_toList]; exact hi), List.getElem?_eq_getElem (by rw [List.length_map]; omega)] at z
      have z := Option.some.inj z
      rw [Array.getElem_toList] at z
      exact z
    have r1 := rep_at (j := i) h1 (by rw [List.getElem?_map, List.getElem?_eq_getElem i4]; rfl) (List.getElem?_eq_getElem (by omega))
    have r2 := val_at (j := i) h2 (List.getElem?_eq_getElem (by omega)) (List.getElem?_eq_getElem (by rw [List.length_map]; omega))
    rw [e4, show ns.getD i 0 = ns[i] by rw [List.getD_eq_getElem?_getD, List.getElem?_eq_getElem i4] <;> rfl]
    exact rep_int r1 r2
theorem de_maxV {df : Bool} {B : Bs} {te : DTE} {tk : DTA} {e : Expr} {kws : List Keyword} {p1 apos cpos pos : Pos} {ks : List Str} (hm : X.mg "max" = none) (hc : X.calm = true) (he : DE B X e te) (hk : DK B X kws tk)
    (hg : Gl X "max" := by rfl) (hbase : attributeBase e "values" X.env (eval e X.env) = eval e X.env := by rfl) (hline : (apos.endLine == cpos.line) = true := by rfl)
    (na : starEach [.Call (.Attribute e "values" apos) [] [] cpos] X.env = (false, eval (.Call (.Attribute e "values" apos) [] [] cpos) X.env) :: starEach [] X.env := by rfl)
    (hbk : backTo pos (starEach [.Call (.Attribute e "values" apos) [] [] cpos] X.env) = (false, eval (.Call (.Attribute e "values" apos) [] [] cpos) X.env) :: backTo pos (starEach [] X.env) := by rfl) (hpl : (backTo pos (starEach [.Call (.Attribute e "values" apos) [] [] cpos] X.env)).any (·.1) = false := by rfl)
    (hall : (backToKw pos (keywordEach kws X.env)).all (·.1.isSome) = true := by rfl) (hnone : (backToKw pos (keywordEach kws X.env)).any (·.1.isNone) = false := by rfl) (hks : (backToKw pos (keywordEach kws X.env)).filterMap (·.1) = ks := by rfl) (hk1 : (df = false ∧ ks = []) ∨ (df = true ∧ ks = [Str.ofString "default"]) := by first | exact .inl ⟨rfl, rfl⟩ | exact .inr ⟨rfl, rfl⟩) :
    DE B X (.Call (.Name "max" p1) [.Call (.Attribute e "values" apos) [] [] cpos] kws pos) (dMaxV df tk te) := by
  refine ⟨fun pins s σ H Q I ⟨ρ, m, q, pre, hte, post⟩ => ?_⟩
  refine wpAny_Call_Name_kw (ld_blt I hg hm (show bootBuiltins (Str.ofString "max") = some (.builtin "max") by decide +kernel) ?_ (by decide) (by decide))
  refine PyProof.Rows.callWith_kw (args_cons (wpAny_Call_method (T := "dict") (id := "dict.values") hbase rfl hline F.plainAttrs_dict F.slot_dict_values F.type_dict_values (thn (he.run pins s σ H (fun v H1 => ∃ d m1, Rep X.K H1 d v ∧ Sim X.K H1 m1 ∧ Step H m H1 m1 ∧ (∃ a, d = .ref a ∧ ((∃ kvs, m1 a = some (.dK kvs)) ∨ ∃ kvs, m1 a = some (.dN kvs))) ∧
      tk ρ m1 fun zs m2 => ∃ a ns dflt, d = .ref a ∧ valsI m2 a ns ∧ ((df = false ∧ zs = [] ∧ dflt = none ∧ ns ≠ []) ∨ ∃ i, df = true ∧ zs = [.int i] ∧ dflt = some i) ∧ ∀ mx, MaxOf ns dflt mx → q (.int mx) m2) I
    ⟨ρ, m, _, pre, hte, fun d m1 v H1 h1 r1 s1 t1 => ⟨d, m1, r1, s1, t1, h1⟩⟩) fun u s1 ⟨z, H1, I1, rz, d, m1, rd, sm1, t1, ⟨a, ed, hd⟩, htk⟩ => ?_)) na) hbk hpl hall hnone
  subst ed
  cases rd
  obtain rfl : u = Value.ref a := rz
  obtain ⟨hsys, es0, ep0, raw0⟩ := rawOfD I1 sm1 hd
  refine ⟨raw0.typeIs, raw_noDict raw0, ?_⟩
  show wpAny _ _ (callWith cpos (.builtin "dict.values") [.ref a] [] []) _ X.xe s1
  refine method_meetsIn F.slot_dict_values F.entry_dict_values rfl (PySem.evalArgs_none ⟨rfl, raw0.typeIs, F.args_dict_values_1 _, _, meets_dict_values_raw a hsys, ⟨es0, ep0, raw0⟩, args_nil ?_⟩)
  have I2 : Inv X pins σ H1 { s1 with heap := s1.heap.push (viewOb a) } := I1.kept (t' := s1.toks) fun b ob q => Heap.get?_push_of_some _ q
  have n1 : H1 s1.heap.objs.size = none := I1.hok.fresh (Nat.le_refl _)
  have I3 : Inv X (pins ++ [(s1.heap.objs.size, viewOb a)]) σ H1 { s1 with heap := s1.heap.push (viewOb a) } := I2.pins_of fun p hp => by
    rcases List.mem_append.mp hp with hp | hp
    · exact I2.pin p (List.mem_append_right _ hp)
    · rw [List.mem_singleton] at hp
      subst hp
      exact ⟨Heap.get?_push_size _ rfl, n1, Nat.ne_of_gt I1.lt, I1.nofs (Nat.le_refl _), fun v z => nomatch z⟩
  refine thn (hk.run pos _ _ σ H1 (fun zs H2 => ∃ m2 a' ns dflt, Sim X.K H2 m2 ∧ Step H1 m1 H2 m2 ∧ D.ref a = .ref a' ∧ valsI m2 a' ns ∧ ((df = false ∧ zs = [] ∧ dflt = none ∧ ns ≠ []) ∨ ∃ i, df = true ∧ zs = [.int i] ∧ dflt = some i) ∧ ∀ mx, MaxOf ns dflt mx → q (.int mx) m2) I3
    ⟨ρ, m1, _, pre.next sm1 t1, htk, fun ds m2 vs2 H2 ⟨a', ns, dflt, e1, h2, h3, h4⟩ r2 s2 t2 => ⟨m2, a', ns, dflt, s2, t2, e1, h2, ?_, h4⟩⟩) fun ws s2 ⟨zs, H2, I4, rz2, m2, a', ns, dflt, sm2, t2, ea, hv, hkw, hq⟩ => ?_
  · rcases h3 with ⟨ed, rfl, e2, e3⟩ | ⟨i, ed, rfl, e2⟩
    · cases r2; exact .inl ⟨ed, rfl, e2, e3⟩
    · cases r2 with
      | cons r rr => cases rr; cases r; exact .inr ⟨i, ed, rfl, e2⟩
  · cases ea
    rw [hks]
    have gv := (I4.pin (s1.heap.objs.size, viewOb a) (by simp)).1
    obtain ⟨es, ep, raw, hz, hval⟩ := rawVals I4 sm2 hv
    refine max_src (dflt := dflt) (KdlSrc.rawValues (r := s1.heap.objs.size) (d := a) (es := es) (ep := ep)) (I4.ok.hd hc) ⟨⟨_, gv, rfl, rfl⟩, raw⟩ hz (fun i v ⟨hi, e⟩ => by subst e; exact hval i hi) ?_ fun h' tk4 t' mx kp hmx => ?_
    · rcases hkw with ⟨ed, rfl, e2, e3⟩ | ⟨i, ed, rfl, e2⟩
      · cases rz2
        exact .inl ⟨by simp, e2, e3⟩
      · cases rz2 with
        | cons r rr =>
          cases rr
          obtain ⟨t, rfl⟩ := r
          rcases hk1 with ⟨e5, rfl⟩ | ⟨_, rfl⟩
          · rw [ed] at e5; cases e5
          · exact .inr ⟨i, t, rfl, e2⟩
    · exact ⟨.int mx, H2, (I4.kept (t' := tk4) kp).unpinned, ⟨t', rfl⟩, post (.int mx) m2 _ _ (hq mx hmx) (.int mx) sm2 (t1.trans t2)⟩
end
end L2.Lh

/-! sorted(xs): items of any data that can be compared place by place -/
namespace L2.Lh
open PySem PySem.Spec PyProof.Rows LamX
noncomputable section
def sortX : DRL := fun d m q => ∃ a xs ps, d = .ref a ∧ m a = some (.lst xs) ∧ xs.length ≤ 1000 ∧ pyYs (fun _ => none) xs = some ps ∧ PySem.W.AllAlike ps ∧ PySem.W.Sortable ps ∧ (∀ p ∈ ps, p.depth ≤ 50) ∧ q (srtD xs ps) m
theorem l_sortX {X : Cx} (hu : X.A.units + 65 < cLine) : CallR X (.builtin "sorted") (upCL X.K sortX) := by
  intro pins s σ H xs us Q I r ⟨d, v, m, q, e, rd, sim, ⟨a, ds, ps, ed, em, h1000, ep, hal, hsk, hdp, hq⟩, post⟩
  subst e ed
  cases rd
  rw [Vals.ref1 r]
  obtain ⟨zs, hz, rr⟩ := sim a _ em
  obtain ⟨vs, rv, pl, hz⟩ := I.list (SqL.of hz)
  have el : vs.length = ds.length := by rw [← rv.length, ← rr.length]
  have plen := pyYs_len ep
  have gk := pyYs_ok I (f := fun _ => none) (fun _ _ z => nomatch z) rr ep rv
  have two : Two (RepU X.K H) ds vs := repU_of rr rv
  have each : PySem.W.EachIs (fun v (x : D × PyData) => RepU X.K H x.1 v) vs (ds.zip ps) := two_each (zip_two (R := RepU X.K H) two plen)
  have emap : (ds.zip ps).map Prod.snd = ps := List.map_snd_zip (by omega)
  have er : PySem.W.EachIs (fun v (x : D × PyData) => ∃ as, Reads s.heap v x.2 as) vs (ds.zip ps) := by
    have := gks_each gk
    exact PySem.W.each_of_map (R := fun v k => ∃ as, Reads s.heap v k as) Prod.snd (by rw [emap]; exact this)
  refine PySem.W.sorted_data (enc := Prod.snd) pl.isList each er (by rw [emap]; exact hal) (by rw [emap]; exact hsk) (by rw [List.length_zip, sizeLine_eq]; omega) (fun x hx => ?_) fun out ol eo => ?_
  · have h1 := hdp x.2 (by rw [← emap]; exact List.mem_map_of_mem hx)
    omega
  · have two2 : Two (RepU X.K H) (srtD ds ps) out := map_fst_two (each_two eo)
    obtain ⟨zo, r1, r2⟩ := repU_to two2
    have zl : zo.length ≤ sizeLine := by
      have := r2.length
      rw [List.length_zip] at ol
      rw [sizeLine_eq]; omega
    obtain ⟨c, hc⟩ := sortedAll_at s.heap vs (List.toArray out)
    exact ⟨.ref (s.heap.objs.size + 1), upd H (s.heap.objs.size + 1) (.lst zo), I.laid (t' := s.toks) (fun b o q => sortedAll_old q) (Nat.le_succ _) ⟨zl, out, c, r2, hc⟩, rfl, post.lst hq (I.hok.fresh (Nat.le_succ _)) r1 sim⟩
end
end L2.Lh

namespace L2.Lh
open PySem PySem.Spec PyProof.Rows LamX
noncomputable section

local macro_rules | `(tactic| walk_at "rd") => `(tactic| try simp only [dSeq, dNext, dRet, dIfS, dAsg, gNm, dDrop, dVar, dC, dOp, dUn, dCB, dCN, dCL, dCNL, dCons, dNil, dTup, dLst, dNew, dAnd, dOr, dNot, dAndV, dOrV, dNotV, dIf, dTest, dTruth, dChain, dCall, dFor, dComp, dYes, iSeq, iNew, itOf, iRange1, iEnumL, gTp, gCn, gNl, dListRg, dTupRg, dRg1, dSl, dPart, dNoPart, slD, dEqNN, dBM, dAugIx, dSetIx, setD, wipeD, listD, sortD, tupleD, lenD, absD, max2D, min2D, isiD, tyS, isaB, truD, itemsOf, itemsL, reprD, minD, ixD, addD, ii0, iiD, subD, fdivD, modD, powD, ltD, leD, gtD, geD, dNil?, negD, mulD, eqD, neD, allN, anyN, List.getElem?_cons_zero, List.getElem?_cons_succ, List.set_cons_zero, List.set_cons_succ, if_true, if_false, Bool.false_eq_true, Bool.not_true, Bool.not_false, reduceIte, Option.map_some, beq_self_eq_true, List.length_cons, List.length_nil, Nat.zero_add, Nat.reduceAdd, true_and])

local macro_rules | `(tactic| walk_at "re") => `(tactic| try simp only [dSeq, dNext, dRet, dRetN, dIfS, dAsg, gNm, dDrop, dVar, dC, dOp, dUn, dCB, dCN, dCL, dCNL, dCons, dNil, dTup, dLst, dNew, dAnd, dOr, dNot, dAndV, dOrV, dNotV, dIf, dTest, dTruth, dChain, dCall, dCallK, dFor, dComp, dYes, iSeq, iNew, iRange1, iRange2, iEnumL, gTp_t, gCn_c, gNl_n, dListRg, dTupRg, dTupRgF, ftupleD_f, dRg1, dSl, dPart, dNoPart, dEqNN, dBM, dAugIx, dSetIx, dAug, wipeD, allN, anyN, dNil?, subD, fdivD, modD, powD, ltD, leD, gtD, geD,
  addD_ii, addD_ss, addD_tt, addD_rr, iiD_ii, ii0_ii, mulD_ii, mulD_ri, mulD_ti, negD_i, absD_i, max2D_ii, min2D_ii, eqD_ii, neD_ii, eqD_ss, neD_ss, reprD_i, reprD_t, reprD_r, reprD_o, itemsOf_t, itemsOf_o, itemsOf_f, lenD_f, tupleD_f, listD_f, itOf_f, isi_ftup_tuple, reprD_f, sortD_f, itemsL_o, lenD_t, lenD_o, lenD_s, tupleD_t, tupleD_o, listD_t, listD_o, minD_t, slD_t, slD_o, itOf_t, itOf_o, sortD_t, isi_int_int, isi_int_bool, isi_int_tuple, isi_tup_tuple, isi_tup_list, isi_tup_int, truD_b, truD_t, intsOf_map,
  List.getElem?_cons_zero, List.getElem?_cons_succ, List.set_cons_zero, List.set_cons_succ, List.map_cons, List.map_nil, List.getD_cons_zero, List.getD_cons_succ, if_true, if_false, Bool.false_eq_true, Bool.not_true, Bool.not_false, reduceIte, Option.map_some, beq_self_eq_true, List.length_cons, List.length_nil, List.length_map, Nat.zero_add, Nat.reduceAdd, true_and, Mem.set_same, decide_true, Int.toNat_natCast])

local macro_rules | `(tactic| walk_at "rf") => `(tactic| try simp only [dSeq, dNext, dRet, dRetN, dIfS, dAsg, gNm, dDrop, dVar, dC, dOp, dUn, dCB, dCN, dCL, dCNL, dCons, dNil, dTup, dLst, dNew, dAnd, dOr, dNot, dAndV, dOrV, dNotV, dIf, dTest, dTruth, dChain, dCall, dCallK, dFor, dComp, dYes, iSeq, iNew, iRange1, iRange2, iEnumL, iEnum, dSetG, dDisp1N, dDisp1K, dGet1, dGet2, dSetdef, lenG_t, ltG_ii, lenG_f, lenG_o, gTp_t, gCn_c, gNl_n, dListRg, dTupRg, dTupRgF, ftupleD_f, dRg1, dSl, dPart, dNoPart, dEqNN, dBM, dAugIx, dSetIx, dAug, wipeD, allN, anyN, dNil?, subD, fdivD, modD, powD, ltD, leD, gtD, geD,
  addD_ii, addD_ss, addD_tt, addD_rr, iiD_ii, ii0_ii, mulD_ii, mulD_ri, mulD_ti, negD_i, absD_i, max2D_ii, min2D_ii, eqD_ii, neD_ii, eqD_ss, neD_ss, reprD_i, reprD_t, reprD_r, reprD_o, itemsOf_t, itemsOf_o, itemsOf_f, lenD_f, tupleD_f, listD_f, itOf_f, isi_ftup_tuple, reprD_f, sortD_f, itemsL_o, lenD_t, lenD_o, lenD_s, tupleD_t, tupleD_o, listD_t, listD_o, minD_t, slD_t, slD_o, itOf_t, itOf_o, sortD_t, isi_int_int, isi_int_bool, isi_int_tuple, isi_tup_tuple, isi_tup_list, isi_tup_int, truD_b, truD_t, intsOf_map,
  List.getElem?_cons_zero, List.getElem?_cons_succ, List.set_cons_zero, List.set_cons_succ, List.map_cons, List.map_nil, List.getD_cons_zero, List.getD_cons_succ, if_true, if_false, Bool.false_eq_true, Bool.not_true, Bool.not_false, reduceIte, Option.map_some, beq_self_eq_true, List.length_map, Nat.reduceAdd, true_and, Mem.set_same, decide_true, Int.toNat_natCast])
local macro_rules | `(tactic| walk_at "mem") => `(tactic| grind [Mem.set, Mem.le])
local macro_rules | `(tactic| walk_at "sz") => `(tactic| first | exact sized (by decide) | exact sized' (by decide) | exact sized (by omega) | exact sized' (by omega) | (refine sized ?_; simp; done) | (refine sized' ?_; simp; done) | (refine sized ?_; simp; omega) | (refine sized' ?_; simp; omega))

/-! ### machines -/
def isBelowD (d : D) (e : Int) : Bool := match d with
  | .int i => decide (0 ≤ i) && decide (i < e)
  | _ => false
def sp_is_below : DSp := sp2 fun d e m q _ => kn m d ∧ ∃ i, e = .int i ∧ q (.bl (isBelowD d i)) m
/-- a machine as plain data -/
abbrev Mach := List (List Int × List Int)
def roomD (r : List Int × List Int) : D := .tup [.ftup (r.1.map D.int), .tup (r.2.map D.int)]
def machD (M : Mach) : D := .tup (M.map roomD)
structure IsRoom (many rooms : Nat) (r : List Int × List Int) : Prop where
  turn : isTurnL r.1 = true
  len1 : r.1.length = many
  len2 : r.2.length = many
  rests : ∀ x ∈ r.2, 0 ≤ x ∧ x < rooms
structure IsMach (many : Nat) (M : Mach) : Prop where
  few : 1 ≤ M.length
  most : M.length ≤ 60
  two : 2 ≤ many
  four : many ≤ 4
  room : ∀ r ∈ M, IsRoom many M.length r
structure IsRowL (many : Nat) (row : List Int) : Prop where
  len : row.length ≤ 100
  at_ : ∀ x ∈ row, 0 ≤ x ∧ x < many
/-- what is asked of machines here: good ones -/
def sp_is_room : DSp := sp3 fun d a b m q _ => ∃ many rooms r, d = roomD r ∧ a = .int (many : Nat) ∧ b = .int (rooms : Nat) ∧ IsRoom many rooms r ∧ q (.bl true) m
def sp_is_machine : DSp := sp1 fun d m q _ => ∃ many M, d = machD M ∧ IsMach many M ∧ q (.bl true) m
def sp_sure_machine : DSp := sp1 fun d m q _ => ∃ many M, d = machD M ∧ IsMach many M ∧ q d m
/-! ### draws: any number -/
def sp_law_state : DSp := sp2 fun d k m q _ => ∃ (ns : List Int) (i : Nat), d = .rol (ns.map D.int) ∧ k = .int (i : Nat) ∧ i ≤ 1000 ∧ ∀ (n : Int) (a : Addr), m a = none → q (.ref a) (m.set a (.lst [.int n]))
def sp_law_next : DSp := sp2 fun d k m q _ => ∃ (a : Addr) (n : Int) (i : Int), d = .ref a ∧ m a = some (.lst [.int n]) ∧ k = .int i ∧ 0 < i ∧ i < 1073741824 ∧ ∀ r n' : Int, 0 ≤ r → r < i → q (.int r) (m.set a (.lst [.int n']))

/-! ### machines, in plain Lean: what two rooms do alike -/
def tA (M : Mach) (i : Nat) : List Int := (M.getD i ([], [])).1
def rA (M : Mach) (i : Nat) : List Nat := ((M.getD i ([], [])).2).map Int.toNat
def rg (M : Mach) (i l : Nat) : Nat := (rA M i).getD l 0
structure Cl (k : Nat) (M : Mach) : Prop where
  len : ∀ i, i < M.length → (rA M i).length = k
  low : ∀ i, i < M.length → ∀ x ∈ rA M i, x < M.length
theorem Cl.rg {k : Nat} {M : Mach} (c : Cl k M) {i l : Nat} (hi : i < M.length) (hl : l < k) : rg M i l < M.length := by
  have h := c.len i hi
  unfold L2.Lh.rg
  rw [List.getD_eq_getElem?_getD, List.getElem?_eq_getElem (by omega)]
  exact c.low i hi _ (List.getElem_mem _)
def Eqn (k : Nat) (M N : Mach) : Nat → Nat → Nat → Prop
  | 0, i, j => tA M i = tA N j
  | n + 1, i, j => tA M i = tA N j ∧ ∀ l, l < k → Eqn k M N n (rg M i l) (rg N j l)
def Eqv (k : Nat) (M N : Mach) (i j : Nat) : Prop := ∀ n, Eqn k M N n i j
theorem Eqn.tn {k : Nat} {M N : Mach} : ∀ {n i j : Nat}, Eqn k M N n i j → tA M i = tA N j
  | 0, _, _, h => h
  | _ + 1, _, _, h => h.1
theorem Eqn.down {k : Nat} {M N : Mach} : ∀ {n i j : Nat}, Eqn k M N (n + 1) i j → Eqn k M N n i j
  | 0, _, _, h => h.1
  | n + 1, _, _, h => ⟨h.1, fun l hl => Eqn.down (n := n) (h.2 l hl)⟩
theorem Eqn.refl {k : Nat} {M : Mach} : ∀ (n i : Nat), Eqn k M M n i i
  | 0, _ => rfl
  | n + 1, _ => ⟨rfl, fun _ _ => Eqn.refl n _⟩
theorem Eqn.symm {k : Nat} {M N : Mach} : ∀ {n i j : Nat}, Eqn k M N n i j → Eqn k N M n j i
  | 0, _, _, h => Eq.symm h
  | _ + 1, _, _, h => ⟨h.1.symm, fun l hl => Eqn.symm (h.2 l hl)⟩
theorem Eqn.trans {k : Nat} {M N O : Mach} : ∀ {n i j u : Nat}, Eqn k M N n i j → Eqn k N O n j u → Eqn k M O n i u
  | 0, _, _, _, h, g => Eq.trans h g
  | _ + 1, _, _, _, h, g => ⟨h.1.trans g.1, fun l hl => Eqn.trans (h.2 l hl) (g.2 l hl)⟩
theorem Eqv.refl {k : Nat} {M : Mach} (i : Nat) : Eqv k M M i i := fun n => Eqn.refl n i
theorem Eqv.symm {k : Nat} {M N : Mach} {i j : Nat} (h : Eqv k M N i j) : Eqv k N M j i := fun n => (h n).symm
theorem Eqv.trans {k : Nat} {M N O : Mach} {i j u : Nat} (h : Eqv k M N i j) (g : Eqv k N O j u) : Eqv k M O i u := fun n => (h n).trans (g n)
theorem Eqv.tn {k : Nat} {M N : Mach} {i j : Nat} (h : Eqv k M N i j) : tA M i = tA N j := h 0
theorem Eqv.go {k : Nat} {M N : Mach} {i j l : Nat} (h : Eqv k M N i j) (hl : l < k) : Eqv k M N (rg M i l) (rg N j l) := fun n => (h (n + 1)).2 l hl
theorem Eqv.co {k : Nat} {M N : Mach} {P : Nat → Nat → Prop} (h : ∀ i j, P i j → tA M i = tA N j ∧ ∀ l, l < k → P (rg M i l) (rg N j l)) {i j : Nat} (p : P i j) : Eqv k M N i j := fun n => by
  induction n generalizing i j with
  | zero => exact (h i j p).1
  | succ n ih => exact ⟨(h i j p).1, fun l hl => ih ((h i j p).2 l hl)⟩
/-- once two rounds have the same, all have -/
theorem Eqn.stop {k d : Nat} {M : Mach} (c : Cl k M) (h : ∀ i j, i < M.length → j < M.length → Eqn k M M d i j → Eqn k M M (d + 1) i j) :
    ∀ i j, i < M.length → j < M.length → Eqn k M M d i j → Eqv k M M i j := fun i j hi hj e =>
  Eqv.co (P := fun i j => i < M.length ∧ j < M.length ∧ Eqn k M M d i j) (fun i j ⟨hi, hj, e⟩ => ⟨e.tn, fun l hl => ⟨c.rg hi hl, c.rg hj hl, (h i j hi hj e).2 l hl⟩⟩) ⟨hi, hj, e⟩

/-! ### numbers for things -/
theorem nd_len {α : Type} : ∀ {xs ys : List α}, xs.Nodup → (∀ x ∈ xs, x ∈ ys) → xs.length ≤ ys.length
  | [], _, _, _ => Nat.zero_le _
  | x :: xs, ys, nd, h => by
    obtain ⟨h1, h2⟩ := List.nodup_cons.mp nd
    obtain ⟨a, b, rfl⟩ := List.append_of_mem (h x (List.mem_cons_self ..))
    have := nd_len (ys := a ++ b) h2 fun y hy => by
      have := h y (List.mem_cons_of_mem _ hy)
      simp only [List.mem_append, List.mem_cons] at this ⊢
      rcases this with h | rfl | h
      · exact .inl h
      · exact absurd hy h1
      · exact .inr h
    simp only [List.length_append, List.length_cons] at this ⊢
    omega
/-- numbers below c, each there, the same just for like ones (of n things, by e) -/
structure NumOf (e : Nat → Nat → Prop) (n c : Nat) (ns : List Nat) : Prop where
  len : ns.length = n
  low : ∀ i, i < n → ns.getD i 0 < c
  all : ∀ v, v < c → ∃ i, i < n ∧ ns.getD i 0 = v
  iff : ∀ i j, i < n → j < n → (ns.getD i 0 = ns.getD j 0 ↔ e i j)
theorem NumOf.le {e : Nat → Nat → Prop} {n c : Nat} {ns : List Nat} (h : NumOf e n c ns) : c ≤ n := by
  have := nd_len (xs := List.range c) (ys := ns) List.nodup_range fun v hv => by
    obtain ⟨i, hi, e⟩ := h.all v (List.mem_range.mp hv)
    rw [← e, List.getD_eq_getElem?_getD, List.getElem?_eq_getElem (by rw [h.len]; exact hi)]
    exact List.getElem_mem _
  rw [List.length_range, h.len] at this
  exact this
/-- a finer one with no more numbers is the same -/
theorem NumOf.same {e f : Nat → Nat → Prop} {n c c' : Nat} {ns ms : List Nat} (h : NumOf e n c ns) (g : NumOf f n c' ms) (fine : ∀ i j, i < n → j < n → f i j → e i j) (few : c' ≤ c) :
    ∀ i j, i < n → j < n → e i j → f i j := fun i j hi hj eij => by
  refine Classical.byContradiction fun nf => ?_
  have ne : ms.getD i 0 ≠ ms.getD j 0 := fun z => nf ((g.iff i j hi hj).mp z)
  -- each number of ns but that of ms at i
  have key : ∀ v, v < c → ∃ u, u ∈ (List.range c').erase (ms.getD i 0) ∧ ∃ t, t < n ∧ ms.getD t 0 = u ∧ ns.getD t 0 = v := fun v hv => by
    obtain ⟨t, ht, tv⟩ := h.all v hv
    by_cases z : ms.getD t 0 = ms.getD i 0
    · have fti := (g.iff t i ht hi).mp z
      have eti := (h.iff t i ht hi).mpr (fine t i ht hi fti)
      refine ⟨ms.getD j 0, ?_, j, hj, rfl, ?_⟩
      · exact (List.mem_erase_of_ne (Ne.symm ne)).mpr (List.mem_range.mpr (g.low j hj))
      · rw [← (h.iff i j hi hj).mpr eij, ← eti, tv]
    · exact ⟨_, (List.mem_erase_of_ne z).mpr (List.mem_range.mpr (g.low t ht)), t, ht, rfl, tv⟩
  let w : Nat → Nat := fun u => if z : ∃ t, t < n ∧ ms.getD t 0 = u then ns.getD (Classical.choose z) 0 else 0
  have hw : ∀ t, t < n → w (ms.getD t 0) = ns.getD t 0 := fun t ht => by
    have z : ∃ s, s < n ∧ ms.getD s 0 = ms.getD t 0 := ⟨t, ht, rfl⟩
    have hs := Classical.choose_spec z
    show (if z : ∃ s, s < n ∧ ms.getD s 0 = ms.getD t 0 then ns.getD (Classical.choose z) 0 else 0) = _
    rw [dif_pos z]
    exact (h.iff _ t hs.1 ht).mpr (fine _ t hs.1 ht ((g.iff _ t hs.1 ht).mp hs.2))
  have := nd_len (xs := List.range c) (ys := ((List.range c').erase (ms.getD i 0)).map w) List.nodup_range fun v hv => by
    obtain ⟨u, hu, t, ht, tu, tv⟩ := key v (List.mem_range.mp hv)
    exact List.mem_map.mpr ⟨u, hu, by rw [← tu, hw t ht, tv]⟩
  rw [List.length_range, List.length_map, List.length_erase_of_mem (List.mem_range.mpr (g.low i hi)), List.length_range] at this
  have := g.low i hi
  omega
/-! ### the least machine: going over from a room, one of each kind -/
def addR (e : Nat → Nat → Bool) (met : List Nat) (to : Nat) : List Nat := if met.any (fun x => e x to) then met else met ++ [to]
def addAll (e : Nat → Nat → Bool) (met tos : List Nat) : List Nat := tos.foldl (addR e) met
def bfsN (M : Mach) (e : Nat → Nat → Bool) (r : Nat) : Nat → List Nat
  | 0 => [r]
  | n + 1 => addAll e (bfsN M e r n) (rA M ((bfsN M e r n).getD n 0))
def idxR (e : Nat → Nat → Bool) (met : List Nat) (to : Nat) : Nat := met.findIdx fun x => e x to
def leastL (M : Mach) (e : Nat → Nat → Bool) (met : List Nat) : Mach := met.map fun x => (tA M x, (rA M x).map fun to => ((idxR e met to : Nat) : Int))
/-- met is what going over from r comes to -/
def IsMet (M : Mach) (e : Nat → Nat → Bool) (r : Nat) (met : List Nat) : Prop := ∃ n, met = bfsN M e r n ∧ n = met.length ∧ ∀ k, k < n → k < (bfsN M e r k).length
theorem addR_pre {e : Nat → Nat → Bool} {met : List Nat} {to : Nat} : met <+: addR e met to := by
  unfold addR; split
  · exact List.prefix_refl _
  · exact List.prefix_append _ _
theorem addAll_pre {e : Nat → Nat → Bool} : ∀ {tos met : List Nat}, met <+: addAll e met tos
  | [], _ => List.prefix_refl _
  | _ :: tos, _ => addR_pre.trans (addAll_pre (tos := tos))
theorem bfsN_pre {M : Mach} {e : Nat → Nat → Bool} {r : Nat} : ∀ {n k : Nat}, n ≤ k → bfsN M e r n <+: bfsN M e r k
  | n, 0, h => by cases Nat.le_zero.mp h; exact List.prefix_refl _
  | n, k + 1, h => by
    rcases Nat.lt_or_ge k n with z | z
    · have : n = k + 1 := by omega
      subst this; exact List.prefix_refl _
    · exact (bfsN_pre z).trans addAll_pre
theorem addR_has {e : Nat → Nat → Bool} (rf : ∀ x, e x x = true) {met : List Nat} {to : Nat} : (addR e met to).any (fun x => e x to) = true := by
  unfold addR; split
  · assumption
  · simp [rf]
theorem any_pre {met ms : List Nat} {p : Nat → Bool} (h : met <+: ms) (a : met.any p = true) : ms.any p = true := by
  obtain ⟨t, rfl⟩ := h
  rw [List.any_append, a]; rfl
theorem addAll_has {e : Nat → Nat → Bool} (rf : ∀ x, e x x = true) : ∀ {tos met : List Nat} {to : Nat}, to ∈ tos → (addAll e met tos).any (fun x => e x to) = true
  | t :: tos, met, to, h => by
    rcases List.mem_cons.mp h with rfl | h
    · exact any_pre (addAll_pre (tos := tos)) (addR_has rf)
    · exact addAll_has (tos := tos) (met := addR e met t) rf h
theorem findIdx_pre {met ms : List Nat} {p : Nat → Bool} (h : met <+: ms) (a : met.any p = true) : ms.findIdx p = met.findIdx p := by
  obtain ⟨t, rfl⟩ := h
  rw [List.findIdx_append, if_pos]
  exact List.findIdx_lt_length.mpr (by simpa using a)
/-- no two of them alike, all in bounds -/
structure MetOk (e : Nat → Nat → Bool) (n : Nat) (met : List Nat) : Prop where
  low : ∀ x ∈ met, x < n
  apart : met.Pairwise fun x y => e x y = false
theorem addR_ok {e : Nat → Nat → Bool} {n : Nat} {met : List Nat} {to : Nat} (h : MetOk e n met) (ht : to < n) : MetOk e n (addR e met to) := by
  unfold addR; split
  · exact h
  · rename_i a
    refine ⟨fun x hx => ?_, ?_⟩
    · rcases List.mem_append.mp hx with hx | hx
      · exact h.low x hx
      · rw [List.mem_singleton.mp hx]; exact ht
    · refine List.pairwise_append.mpr ⟨h.apart, List.pairwise_singleton _ _, fun x hx y hy => ?_⟩
      rw [List.mem_singleton.mp hy]
      cases z : e x to with
      | false => rfl
      | true => exact absurd (List.any_eq_true.mpr ⟨x, hx, z⟩) a
theorem addAll_ok {e : Nat → Nat → Bool} {n : Nat} : ∀ {tos met : List Nat}, MetOk e n met → (∀ x ∈ tos, x < n) → MetOk e n (addAll e met tos)
  | [], _, h, _ => h
  | _ :: tos, _, h, l => addAll_ok (tos := tos) (addR_ok h (l _ (List.mem_cons_self ..))) fun x hx => l x (List.mem_cons_of_mem _ hx)
theorem bfsN_ok {k : Nat} {M : Mach} {e : Nat → Nat → Bool} {r : Nat} (c : Cl k M) (hr : r < M.length) : ∀ n, (∀ k, k < n → k < (bfsN M e r k).length) → MetOk e M.length (bfsN M e r n)
  | 0, _ => ⟨fun x hx => by rw [List.mem_singleton.mp hx]; exact hr, List.pairwise_singleton _ _⟩
  | n + 1, h => by
    have ih := bfsN_ok (e := e) c hr n fun k hk => h k (by omega)
    have hn := h n (by omega)
    refine addAll_ok ih fun x hx => c.low _ (ih.low _ ?_) x hx
    rw [List.getD_eq_getElem?_getD, List.getElem?_eq_getElem hn]
    exact List.getElem_mem _
theorem MetOk.nd {e : Nat → Nat → Bool} {n : Nat} {met : List Nat} (rf : ∀ x, e x x = true) (h : MetOk e n met) : met.Nodup :=
  h.apart.imp fun {x y} z w => by rw [w, rf] at z; cases z
theorem MetOk.few {e : Nat → Nat → Bool} {n : Nat} {met : List Nat} (rf : ∀ x, e x x = true) (h : MetOk e n met) : met.length ≤ n := by
  have := nd_len (h.nd rf) (ys := List.range n) fun x hx => List.mem_range.mpr (h.low x hx)
  rwa [List.length_range] at this
/-- e tells what is alike in M -/
structure Tells (k : Nat) (M : Mach) (e : Nat → Nat → Bool) : Prop where
  rf : ∀ x, e x x = true
  iff : ∀ i j, i < M.length → j < M.length → (e i j = true ↔ Eqv k M M i j)
structure LeastOf (k : Nat) (M : Mach) (r : Nat) (L : Mach) : Prop where
  ex : ∃ e met, Tells k M e ∧ IsMet M e r met ∧ L = leastL M e met

section
variable {k : Nat} {M : Mach} {e : Nat → Nat → Bool} {r : Nat} {met : List Nat}
theorem IsMet.ok (c : Cl k M) (hr : r < M.length) (h : IsMet M e r met) : MetOk e M.length met := by
  obtain ⟨n, rfl, _, h2⟩ := h; exact bfsN_ok c hr n h2
theorem IsMet.first (h : IsMet M e r met) : ∃ t, met = r :: t := by
  obtain ⟨n, rfl, _, _⟩ := h
  obtain ⟨t, ht⟩ := bfsN_pre (M := M) (e := e) (r := r) (Nat.zero_le n)
  exact ⟨t, ht.symm⟩
theorem IsMet.closed (t : Tells k M e) (h : IsMet M e r met) {i : Nat} (hi : i < met.length) {to : Nat} (hto : to ∈ rA M (met.getD i 0)) : met.any (fun x => e x to) = true := by
  obtain ⟨n, rfl, h1, h2⟩ := h
  have hin : i < n := by omega
  have hp := bfsN_pre (M := M) (e := e) (r := r) (Nat.succ_le_of_lt hin)
  have hi' := h2 i hin
  have hg : (bfsN M e r n).getD i 0 = (bfsN M e r i).getD i 0 := by
    obtain ⟨u, hu⟩ := bfsN_pre (M := M) (e := e) (r := r) (Nat.le_of_lt hin)
    rw [← hu, List.getD_eq_getElem?_getD, List.getD_eq_getElem?_getD, List.getElem?_append_left hi']
  rw [hg] at hto
  exact any_pre hp (addAll_has t.rf hto)
theorem idx_lt (h : met.any (fun x => e x to) = true) : idxR e met to < met.length := List.findIdx_lt_length.mpr (by simpa using h)
theorem idx_is (h : met.any (fun x => e x to) = true) : e (met.getD (idxR e met to) 0) to = true := by
  have hl := idx_lt h
  rw [List.getD_eq_getElem?_getD, List.getElem?_eq_getElem hl]
  exact List.findIdx_getElem (p := fun x => e x to) (w := hl)
theorem leastL_len : (leastL M e met).length = met.length := List.length_map ..
theorem leastL_t {i : Nat} (hi : i < met.length) : tA (leastL M e met) i = tA M (met.getD i 0) := by
  unfold tA leastL
  simp only [List.getD_eq_getElem?_getD, List.getElem?_map, List.getElem?_eq_getElem hi, Option.map_some, Option.getD_some]
  rfl
theorem leastL_r {i : Nat} (hi : i < met.length) : rA (leastL M e met) i = (rA M (met.getD i 0)).map (idxR e met) := by
  conv => lhs; unfold rA leastL
  simp only [List.getD_eq_getElem?_getD, List.getElem?_map, List.getElem?_eq_getElem hi, Option.map_some, Option.getD_some, List.map_map]
  apply List.map_congr_left
  intro x _
  simp
theorem leastL_rg (c : Cl k M) (ok : MetOk e M.length met) {i l : Nat} (hi : i < met.length) (hl : l < k) : rg (leastL M e met) i l = idxR e met (rg M (met.getD i 0) l) := by
  have hm : met.getD i 0 < M.length := ok.low _ (by rw [List.getD_eq_getElem?_getD, List.getElem?_eq_getElem hi]; exact List.getElem_mem _)
  have h1 := c.len _ hm
  unfold rg
  rw [leastL_r hi]
  simp only [List.getD_eq_getElem?_getD, List.getElem?_map]
  rw [List.getElem?_eq_getElem (by rw [List.getD_eq_getElem?_getD] at h1; omega)]
  rfl
theorem met_low (ok : MetOk e M.length met) {i : Nat} (hi : i < met.length) : met.getD i 0 < M.length := ok.low _ (by rw [List.getD_eq_getElem?_getD, List.getElem?_eq_getElem hi]; exact List.getElem_mem _)
theorem rg_mem (c : Cl k M) {i l : Nat} (hi : i < M.length) (hl : l < k) : rg M i l ∈ rA M i := by
  have := c.len i hi
  unfold rg
  rw [List.getD_eq_getElem?_getD, List.getElem?_eq_getElem (by omega)]
  exact List.getElem_mem _
theorem leastL_eqv (c : Cl k M) (t : Tells k M e) (hr : r < M.length) (h : IsMet M e r met) {i x : Nat} (hi : i < met.length) (hx : x < M.length) (ex : Eqv k M M (met.getD i 0) x) : Eqv k (leastL M e met) M i x := by
  have ok := h.ok c hr
  refine Eqv.co (P := fun i x => i < met.length ∧ x < M.length ∧ Eqv k M M (met.getD i 0) x) (fun i x ⟨hi, hx, ex⟩ => ⟨(leastL_t hi).trans ex.tn, fun l hl => ?_⟩) ⟨hi, hx, ex⟩
  have hm := met_low ok hi
  have cl := h.closed t hi (rg_mem c hm hl)
  have cr := c.rg hm hl
  rw [leastL_rg c ok hi hl]
  refine ⟨idx_lt cl, c.rg hx hl, ?_⟩
  have := (t.iff _ _ (met_low ok (idx_lt cl)) cr).mp (idx_is cl)
  exact this.trans (ex.go hl)
theorem leastL_cl (c : Cl k M) (t : Tells k M e) (hr : r < M.length) (h : IsMet M e r met) : Cl k (leastL M e met) := by
  have ok := h.ok c hr
  refine ⟨fun i hi => ?_, fun i hi x hx => ?_⟩
  · rw [leastL_len] at hi
    rw [leastL_r hi, List.length_map, c.len _ (met_low ok hi)]
  · rw [leastL_len] at hi ⊢
    rw [leastL_r hi] at hx
    obtain ⟨to, hto, rfl⟩ := List.mem_map.mp hx
    exact idx_lt (h.closed t hi hto)
theorem leastL_apart (c : Cl k M) (t : Tells k M e) (hr : r < M.length) (h : IsMet M e r met) {i j : Nat} (hi : i < met.length) (hj : j < met.length) (z : Eqv k (leastL M e met) (leastL M e met) i j) : i = j := by
  have ok := h.ok c hr
  have e1 := leastL_eqv c t hr h hi (met_low ok hi) (Eqv.refl _)
  have e2 := leastL_eqv c t hr h hj (met_low ok hj) (Eqv.refl _)
  have e3 := (t.iff _ _ (met_low ok hi) (met_low ok hj)).mpr (e1.symm.trans (z.trans e2))
  have e4 := (t.iff _ _ (met_low ok hj) (met_low ok hi)).mpr (e1.symm.trans (z.trans e2)).symm
  rw [List.getD_eq_getElem?_getD, List.getD_eq_getElem?_getD, List.getElem?_eq_getElem hi, List.getElem?_eq_getElem hj] at e3 e4
  have p := List.pairwise_iff_getElem.mp ok.apart
  rcases Nat.lt_trichotomy i j with z | z | z
  · have := p i j hi hj z; simp only [Option.getD_some] at e3; rw [e3] at this; cases this
  · exact z
  · have := p j i hj hi z; simp only [Option.getD_some] at e4; rw [e4] at this; cases this
end
/-! ### one and the same -/
inductive Prd (P : Nat → Nat → Prop) : List Nat → List Nat → Prop
  | nil : Prd P [] []
  | cons {x y : Nat} {xs ys : List Nat} : P x y → Prd P xs ys → Prd P (x :: xs) (y :: ys)
theorem Prd.len {P : Nat → Nat → Prop} : ∀ {xs ys : List Nat}, Prd P xs ys → xs.length = ys.length
  | _, _, .nil => rfl
  | _, _, .cons _ h => by rw [List.length_cons, List.length_cons, h.len]
theorem Prd.snoc {P : Nat → Nat → Prop} {a b : Nat} (p : P a b) : ∀ {xs ys : List Nat}, Prd P xs ys → Prd P (xs ++ [a]) (ys ++ [b])
  | _, _, .nil => .cons p .nil
  | _, _, .cons q h => .cons q (h.snoc p)
theorem Prd.any {P : Nat → Nat → Prop} {p q : Nat → Bool} (pq : ∀ x y, P x y → p x = q y) : ∀ {xs ys : List Nat}, Prd P xs ys → xs.any p = ys.any q ∧ xs.findIdx p = ys.findIdx q
  | _, _, .nil => ⟨rfl, rfl⟩
  | _, _, .cons h r => by
    have := Prd.any pq r
    rw [List.any_cons, List.any_cons, List.findIdx_cons, List.findIdx_cons, pq _ _ h, this.1, this.2]
    exact ⟨rfl, rfl⟩
theorem Prd.get {P : Nat → Nat → Prop} : ∀ {xs ys : List Nat} {i : Nat}, Prd P xs ys → i < xs.length → P (xs.getD i 0) (ys.getD i 0)
  | _, _, 0, .cons h _, _ => h
  | _, _, i + 1, .cons _ r, hi => by
    rw [List.getD_cons_succ, List.getD_cons_succ]
    exact r.get (by rw [List.length_cons] at hi; omega)
theorem Prd.of {P : Nat → Nat → Prop} : ∀ {xs ys : List Nat}, xs.length = ys.length → (∀ i, i < xs.length → P (xs.getD i 0) (ys.getD i 0)) → Prd P xs ys
  | [], [], _, _ => .nil
  | x :: xs, y :: ys, hl, h => .cons (h 0 (by simp)) (Prd.of (by simpa using hl) fun i hi => by
      have := h (i + 1) (by simpa using hi)
      rwa [List.getD_cons_succ, List.getD_cons_succ] at this)
theorem Prd.map2 {P : Nat → Nat → Prop} {α : Type} {f g : Nat → α} (h : ∀ x y, P x y → f x = g y) : ∀ {xs ys : List Nat}, Prd P xs ys → xs.map f = ys.map g
  | _, _, .nil => rfl
  | _, _, .cons p r => by rw [List.map_cons, List.map_cons, h _ _ p, Prd.map2 h r]
section
variable {k : Nat} {M N : Mach} {e f : Nat → Nat → Bool} {r s : Nat}
/-- rooms of two machines that do the same -/
def RR (k : Nat) (M N : Mach) (x y : Nat) : Prop := x < M.length ∧ y < N.length ∧ Eqv k M N x y
theorem RR.bool (t : Tells k M e) (u : Tells k N f) {x y a b : Nat} (h : RR k M N x y) (g : RR k M N a b) : e x a = f y b := by
  have h1 := t.iff x a h.1 g.1
  have h2 := u.iff y b h.2.1 g.2.1
  cases z : e x a <;> cases w : f y b <;> try rfl
  · have : Eqv k M M x a := h.2.2.trans ((h2.mp w).trans g.2.2.symm)
    rw [h1.mpr this] at z; cases z
  · have : Eqv k N N y b := h.2.2.symm.trans ((h1.mp z).trans g.2.2)
    rw [h2.mpr this] at w; cases w
theorem RR.row (c : Cl k M) (d : Cl k N) {x y : Nat} (h : RR k M N x y) : Prd (RR k M N) (rA M x) (rA N y) := by
  refine Prd.of ((c.len x h.1).trans (d.len y h.2.1).symm) fun i hi => ?_
  have hk : i < k := by rw [← c.len x h.1]; exact hi
  exact ⟨c.rg h.1 hk, d.rg h.2.1 hk, h.2.2.go hk⟩
theorem addR_prd (t : Tells k M e) (u : Tells k N f) {xs ys : List Nat} {a b : Nat} (h : Prd (RR k M N) xs ys) (g : RR k M N a b) : Prd (RR k M N) (addR e xs a) (addR f ys b) := by
  have := (Prd.any (p := fun x => e x a) (q := fun y => f y b) (fun x y z => RR.bool t u z g) h).1
  unfold addR
  rw [this]
  split
  · exact h
  · exact h.snoc g
theorem addAll_prd (t : Tells k M e) (u : Tells k N f) : ∀ {as bs xs ys : List Nat}, Prd (RR k M N) xs ys → Prd (RR k M N) as bs → Prd (RR k M N) (addAll e xs as) (addAll f ys bs)
  | _, _, _, _, h, .nil => h
  | _ :: as, _ :: bs, _, _, h, .cons g r => by
    have := addAll_prd t u (as := as) (bs := bs) (addR_prd t u h g) r
    exact this
theorem bfsN_prd (c : Cl k M) (d : Cl k N) (t : Tells k M e) (u : Tells k N f) (h : RR k M N r s) : ∀ n, (∀ j, j < n → j < (bfsN M e r j).length) → Prd (RR k M N) (bfsN M e r n) (bfsN N f s n)
  | 0, _ => .cons h .nil
  | n + 1, z => by
    have ih := bfsN_prd c d t u h n fun j hj => z j (by omega)
    exact addAll_prd t u ih ((ih.get (z n (by omega))).row c d)
theorem leastL_same (c : Cl k M) (d : Cl k N) (t : Tells k M e) (u : Tells k N f) (h : RR k M N r s) {met ms : List Nat} (a : IsMet M e r met) (b : IsMet N f s ms) : leastL M e met = leastL N f ms := by
  obtain ⟨n, rfl, n1, n2⟩ := a
  obtain ⟨n', rfl, m1, m2⟩ := b
  have key : n = n' := by
    rcases Nat.lt_trichotomy n n' with z | z | z
    · have := bfsN_prd c d t u h n n2
      have l := m2 n z
      rw [← this.len] at l; omega
    · exact z
    · have := bfsN_prd c d t u h n' fun j hj => n2 j (by omega)
      have l := n2 n' z
      rw [this.len] at l; omega
  subst key
  have p := bfsN_prd c d t u h n n2
  unfold leastL
  refine Prd.map2 (fun x y xy => ?_) p
  rw [Prod.mk.injEq]
  refine ⟨xy.2.2.tn, Prd.map2 (fun a b ab => ?_) (xy.row c d)⟩
  rw [show idxR e (bfsN M e r n) a = idxR f (bfsN N f s n) b from (Prd.any (fun x y z => RR.bool t u z ab) p).2]
end
/-! ### rooms come in the order of their numbers -/
def comeR : Nat → List Nat → Option Nat
  | c, [] => some c
  | c, x :: xs => if x > c then none else comeR (max c (x + 1)) xs
def comeM (M : Mach) : Nat → Nat → Nat → Bool
  | 0, _, _ => true
  | n + 1, i, c => if i ≥ c then false else match comeR c (rA M i) with
    | some c' => comeM M n (i + 1) c'
    | none => false
section
variable {k : Nat} {M : Mach} {e : Nat → Nat → Bool} {r : Nat} {met : List Nat}
theorem comeR_add (rf : ∀ x, e x x = true) : ∀ {tos ms : List Nat}, addAll e ms tos <+: met → comeR ms.length (tos.map (idxR e met)) = some (addAll e ms tos).length
  | [], _, _ => rfl
  | to :: tos, ms, h => by
    rw [List.map_cons]
    unfold comeR
    have hp : addR e ms to <+: met := (addAll_pre (e := e) (tos := tos)).trans h
    have hi : idxR e met to = idxR e (addR e ms to) to := findIdx_pre hp (addR_has rf)
    have ih := comeR_add rf (tos := tos) (ms := addR e ms to) h
    show (if idxR e met to > ms.length then none else comeR (max ms.length (idxR e met to + 1)) (tos.map (idxR e met))) = some (addAll e (addR e ms to) tos).length
    rw [hi]
    by_cases a : ms.any (fun x => e x to) = true
    · have e1 : addR e ms to = ms := if_pos a
      rw [e1] at ih ⊢
      have := idx_lt a
      rw [if_neg (by omega), Nat.max_eq_left (by omega)]
      exact ih
    · have e1 : addR e ms to = ms ++ [to] := if_neg a
      have e2 : idxR e (ms ++ [to]) to = ms.length := by
        unfold idxR
        rw [List.findIdx_append, if_neg (fun z => a (by simpa using List.findIdx_lt_length.mp z))]
        simp [List.findIdx_cons, rf]
      rw [e1] at ih ⊢
      rw [e2, if_neg (by omega), Nat.max_eq_right (by omega)]
      rw [List.length_append] at ih
      exact ih
theorem comeM_of (c : Cl k M) (t : Tells k M e) (hr : r < M.length) (h : IsMet M e r met) : comeM (leastL M e met) (leastL M e met).length 0 1 = true := by
  obtain ⟨n, hm, h1, h2⟩ := h
  have main : ∀ (j i : Nat), i + j = n → comeM (leastL M e met) j i (bfsN M e r i).length = true := fun j => by
    induction j with
    | zero => intro i _; rfl
    | succ j ih =>
      intro i hij
      have hi : i < n := by omega
      have il := h2 i hi
      have hg : met.getD i 0 = (bfsN M e r i).getD i 0 := by
        obtain ⟨u, hu⟩ := bfsN_pre (M := M) (e := e) (r := r) (Nat.le_of_lt hi)
        rw [hm, ← hu, List.getD_eq_getElem?_getD, List.getD_eq_getElem?_getD, List.getElem?_append_left il]
      unfold comeM
      rw [if_neg (by omega), leastL_r (by omega), hg]
      have := comeR_add (met := met) t.rf (tos := rA M ((bfsN M e r i).getD i 0)) (ms := bfsN M e r i) (by rw [hm]; exact bfsN_pre (Nat.succ_le_of_lt hi))
      rw [this]
      exact ih (i + 1) (by omega)
  rw [leastL_len]
  rw [← h1]
  exact main n 0 (by omega)
/-- what is asked of the told one -/
structure GoodL (k : Nat) (L : Mach) : Prop where
  cl : Cl k L
  few : 1 ≤ L.length
  come : comeM L L.length 0 1 = true
  apart : ∀ i j, i < L.length → j < L.length → Eqv k L L i j → i = j
theorem LeastOf.good {L : Mach} (c : Cl k M) (hr : r < M.length) (h : LeastOf k M r L) : GoodL k L := by
  obtain ⟨e, met, t, im, rfl⟩ := h.ex
  refine ⟨leastL_cl c t hr im, ?_, comeM_of c t hr im, fun i j hi hj z => ?_⟩
  · obtain ⟨u, hu⟩ := im.first
    rw [leastL_len, hu]; simp
  · rw [leastL_len] at hi hj
    exact leastL_apart c t hr im hi hj z
theorem LeastOf.le {L : Mach} (c : Cl k M) (hr : r < M.length) (h : LeastOf k M r L) : L.length ≤ M.length := by
  obtain ⟨e, met, t, im, rfl⟩ := h.ex
  rw [leastL_len]; exact (im.ok c hr).few t.rf
theorem LeastOf.eqv {L : Mach} (c : Cl k M) (hr : r < M.length) (h : LeastOf k M r L) : Eqv k L M 0 r := by
  obtain ⟨e, met, t, im, rfl⟩ := h.ex
  obtain ⟨u, hu⟩ := im.first
  refine leastL_eqv c t hr im (i := 0) (by rw [hu]; simp) hr ?_
  rw [hu]; exact Eqv.refl _
theorem LeastOf.same {N L L' : Mach} {s : Nat} (c : Cl k M) (d : Cl k N) (h : LeastOf k M r L) (g : LeastOf k N s L') (z : RR k M N r s) : L = L' := by
  obtain ⟨e, met, t, im, rfl⟩ := h.ex
  obtain ⟨f, ms, u, jm, rfl⟩ := g.ex
  exact leastL_same c d t u z im jm
/-- the least of it is itself -/
theorem LeastOf.self {L L' : Mach} (c : Cl k M) (hr : r < M.length) (h : LeastOf k M r L) (g : LeastOf k L 0 L') : L' = L :=
  (h.same c (h.good c hr).cl g ⟨hr, (h.good c hr).few, (h.eqv c hr).symm⟩).symm
/-- each turn of it is one of M's -/
theorem LeastOf.turn {L : Mach} (c : Cl k M) (hr : r < M.length) (h : LeastOf k M r L) {i : Nat} (hi : i < L.length) : ∃ j, j < M.length ∧ tA L i = tA M j := by
  obtain ⟨e, met, t, im, rfl⟩ := h.ex
  rw [leastL_len] at hi
  exact ⟨_, met_low (im.ok c hr) hi, leastL_t hi⟩
end

/-! ### least machines -/
abbrev natD (n : Nat) : D := .int ((n : Nat) : Int)
def sp_numbered : DSp := sp1 fun d m q _ => ∃ (a : Addr) (things : List D) (keys : List NestedKey), d = .ref a ∧ m a = some (.lst things) ∧ things.map keyT = keys.map some ∧ things.length ≤ 1000 ∧
  ∀ (ns : List Nat) (c : Nat) (p : Addr), NumOf (fun i j => keys[i]? = keys[j]?) things.length c ns → m p = none → q (.ref p) (m.set p (.lst (ns.map natD)))
def sp_room_marks : DSp := sp1 fun d m q _ => ∃ (many : Nat) (M : Mach), d = machD M ∧ IsMach many M ∧
  ∀ (ns : List Nat) (c : Nat) (p : Addr), NumOf (Eqv many M M) M.length c ns → m p = none → q (.ref p) (m.set p (.lst (ns.map natD)))
def sp_least_from : DSp := sp2 fun d e m q _ => ∃ (many : Nat) (M : Mach) (r : Nat), d = machD M ∧ e = natD r ∧ r < M.length ∧ IsMach many M ∧ ∀ L, LeastOf many M r L → q (machD L) m
def sp_least : DSp := sp1 fun d m q _ => ∃ (many : Nat) (M : Mach), d = machD M ∧ IsMach many M ∧ ∀ L, LeastOf many M 0 L → q (machD L) m
def eqB (i j : Nat) : Bool := decide (i = j)
/-! ### the least machine begun in a room -/
open Classical in
noncomputable def lea (k : Nat) (M : Mach) (r : Nat) : Mach := if h : ∃ L, LeastOf k M r L then Classical.choose h else []

/-! ### what comes again -/
/-- the least machines begun behind each letter -/
noncomputable def behM (k : Nat) (L : Mach) : List Mach := (rA L 0).map (lea k L)
/-- come to from these, along letters -/
inductive Led (k : Nat) (Fs : List Mach) : Mach → Prop
  | base {L : Mach} : L ∈ Fs → Led k Fs L
  | step {L N : Mach} : Led k Fs L → N ∈ behM k L → Led k Fs N
noncomputable def leasts (k : Nat) (Ms : List Mach) : List Mach := Ms.map fun M => lea k M 0
def Home (k : Nat) (Ms : List Mach) (h : Mach) : Prop := Led k (leasts k Ms) h ∧ Led k (behM k h) h
def Due (k : Nat) (Ms : List Mach) (L : Mach) : Prop := ∃ h, Home k Ms h ∧ Led k [h] L
/-- a least machine -/
structure IsLea (k : Nat) (L : Mach) : Prop where
  mach : IsMach k L
  good : GoodL k L
  self : lea k L 0 = L
def pyMa' (M : Mach) : PyData := .tuple (M.map fun r => .tuple [.tuple (r.1.map PyData.int), .tuple (r.2.map PyData.int)])
def sortK (L : Mach) : PyData := .tuple [.int (L.length : Nat), pyMa' L]
noncomputable def leM : Mach → Mach → Bool := PySem.W.dataLe false sortK
open Classical in
/-- those that come again, and all that these lead to, in order -/
noncomputable def dueL (k : Nat) (Ms : List Mach) : List Mach := if h : ∃ Os : List Mach, Os.Nodup ∧ ∀ L, L ∈ Os ↔ Due k Ms L then (Classical.choose h).mergeSort leM else []
/-- a list or a tuple of machines -/
def SeqM (m : Mem) (d : D) (Ms : List Mach) : Prop := d = .tup (Ms.map machD) ∨ ∃ a, d = .ref a ∧ m a = some (.lst (Ms.map machD))
abbrev arrD (Ps : List (Mach × Addr)) : List (D × D) := Ps.map fun x => (machD x.1, D.ref x.2)
abbrev foundD (Os : List Mach) : List (D × D) := Os.map fun L => (machD L, D.bl true)
/-- the dict of those behind each letter -/
structure ArrV (k : Nat) (m : Mem) (p : Addr) (Ps : List (Mach × Addr)) : Prop where
  at_ : m p = some (.dT (arrD Ps)) ∨ ∃ es ep, m p = some (.dR (kvT (arrD Ps)) es ep ((arrD Ps).map Prod.fst))
  val : ∀ x ∈ Ps, m x.2 = some (.lst ((behM k x.1).map machD))
  nd : (Ps.map Prod.fst).Nodup
  few : Ps.length ≤ 60
structure MsOk (k : Nat) (Ms U : List Mach) : Prop where
  ok : ∀ M ∈ Ms, IsMach k M
  two : 2 ≤ k
  four : k ≤ 4
  few : Ms.length ≤ 60
  u : ∀ L, Led k (leasts k Ms) L → L ∈ U
  small : U.length ≤ 59
def sp_begun_in : DSp := sp2 fun d e m q _ => ∃ (many : Nat) (M : Mach) (r : Nat), d = machD M ∧ e = natD r ∧ r < M.length ∧ IsMach many M ∧ GoodL many M ∧ q (machD (lea many M r)) m
def sp_begun : DSp := sp1 fun d m q _ => ∃ (many : Nat) (M : Mach), d = machD M ∧ IsMach many M ∧ GoodL many M ∧ ∀ a, m a = none → q (.ref a) (m.set a (.lst ((behM many M).map machD)))
def sp_unlike : DSp := sp1 fun d m q _ => ∃ (many : Nat) (Ms U : List Mach), SeqM m d Ms ∧ MsOk many Ms U ∧ ∀ (p : Addr) (m' : Mem) (Ps : List (Mach × Addr)), m.le m' → m p = none → m' p = some (.dT (arrD Ps)) → ArrV many m' p Ps → (∀ L, L ∈ Ps.map Prod.fst ↔ Led many (leasts many Ms) L) → q (.ref p) m'
/-- what led_to and its like take -/
structure LedIn (k : Nat) (m : Mem) (d e : D) (Ps : List (Mach × Addr)) (Fs : List Mach) : Prop where
  ex : ∃ p b, d = .ref p ∧ e = .ref b ∧ ArrV k m p Ps ∧ m b = some (.lst (Fs.map machD))
  few : Fs.length ≤ 100
  fs : ∀ L ∈ Fs, L ∈ Ps.map Prod.fst
  cl : ∀ x ∈ Ps, ∀ L ∈ behM k x.1, L ∈ Ps.map Prod.fst
  four : ∀ x ∈ Ps, (behM k x.1).length ≤ 4
def sp_led_to : DSp := sp2 fun d e m q _ => ∃ (many : Nat) (Ps : List (Mach × Addr)) (Fs : List Mach), LedIn many m d e Ps Fs ∧ ∀ (r : Addr) (m' : Mem) (Os : List Mach), m.le m' → m r = none → m' r = some (.dT (foundD Os)) → Os.Nodup → (∀ L, L ∈ Os ↔ Led many Fs L) → q (.ref r) m'
def sp_come_again (P : Addr) : DSp := sp1 fun d m q _ => ∃ (many : Nat) (Ms U : List Mach), SeqM m d Ms ∧ MsOk many Ms U ∧ m P = some (.tbl (lamQ "come_again")) ∧ ∀ (r : Addr) (m' : Mem), m.le m' → m r = none → m' r = some (.lst ((dueL many Ms).map machD)) → q (.ref r) m'
def sp_again (P : Addr) : DSp := sp1 fun d m q _ => ∃ (many : Nat) (Ms U : List Mach), SeqM m d Ms ∧ MsOk many Ms U ∧ Ms ≠ [] ∧ m P = some (.tbl (lamQ "come_again")) ∧ ∀ (r : Addr) (m' : Mem), m.le m' → m r = none → m' r = some (.lst ((dueL many Ms).map machD)) → q (.ref r) m'
/-! ### the law's own -/
def sp_law_turn : DSp := sp3 fun d k l m q _ => ∃ (a : Addr) (n : Int) (i : Nat) (j : Int), d = .ref a ∧ m a = some (.lst [.int n]) ∧ k = .int (i : Nat) ∧ 2 ≤ i ∧ i ≤ 3 ∧ l = .int j ∧ ∀ (ns : List Int) (n' : Int), isTurnL ns = true → ns.length = i → q (.ftup (ns.map D.int)) (m.set a (.lst [.int n']))
def sp_law_machine : DSp := sp2 fun d k m q _ => ∃ (a : Addr) (n : Int) (many : Nat), d = .ref a ∧ m a = some (.lst [.int n]) ∧ k = .int (many : Nat) ∧ 2 ≤ many ∧ many ≤ 3 ∧
  ∀ (M : Mach) (n' : Int), IsMach many M → M.length ≤ 6 → q (machD M) (m.set a (.lst [.int n']))
/-- rooms as the law has them: rests tuples or lists -/
structure RoomsAt (m : Mem) (d : D) (M : Mach) : Prop where
  ex : ∃ rs : List D, (d = .tup rs ∨ ∃ b, d = .ref b ∧ m b = some (.lst rs)) ∧ ∀ i, i < M.length → ∃ s, rs[i]? = some (.tup [.ftup ((tA M i).map D.int), s]) ∧ (s = .tup ((rA M i).map natD) ∨ ∃ c, s = .ref c ∧ m c = some (.lst ((rA M i).map natD)))
def sp_law_come : DSp := sp2 fun d e m q _ => ∃ (k : Nat) (M : Mach) (r : Nat), RoomsAt m d M ∧ Cl k M ∧ k ≤ 4 ∧ M.length ≤ 60 ∧ e = natD r ∧ r < M.length ∧ ∀ a met, m a = none → IsMet M eqB r met → q (.ref a) (m.set a (.lst (met.map natD)))
/-- what is read at d as data, from now on -/
def PyAt (m : Mem) (d : D) (p : PyData) : Prop := ∀ m', m.le m' → pyW (pyA m' 2) d = some p ∧ pyD m' d = some p
def kdM (met ns : List Nat) : List (Key × D) := (met.zip ns).map fun x => (.inl ((x.1 : Nat) : Int), natD x.2)
/-- things with keys, as data -/
structure KeyF {κ : Type} [DecidableEq κ] (m : Mem) (f : κ → PyData) (rows : List D) (keys : List κ) : Prop where
  at_ : Paired (fun r k => PyAt m r (f k)) rows keys
  eqv : ∀ x y, PyData.eqv (f x) (f y) = decide (x = y)
  sh : ∀ k, SeqAt.shaped (f k) = true
  shl : ∀ ks : List κ, SeqAt.shaped (.list (ks.map f)) = true
def sp_law_numbered : DSp := sp2 fun d e m q _ => ∃ (κ : Type) (_ : DecidableEq κ) (f : κ → PyData) (a b : Addr) (rows : List D) (keys : List κ) (met : List Nat), d = .ref a ∧ m a = some (.lst rows) ∧ e = .ref b ∧ m b = some (.lst (met.map natD)) ∧ KeyF m f rows keys ∧ keys.length = met.length ∧ met.Nodup ∧ met.length ≤ 60 ∧
  ∀ (p : Addr) (ns : List Nat) (c : Nat), NumOf (fun i j => keys[i]? = keys[j]?) met.length c ns → m p = none → q (.ref p) (m.set p (.dK (kdM met ns)))
def sp_law_least : DSp := sp2 fun d e m q _ => ∃ (many : Nat) (M : Mach) (r : Nat), d = machD M ∧ e = natD r ∧ r < M.length ∧ IsMach many M ∧ q (machD (lea many M r)) m
def sp_law_arrows : DSp := sp1 fun d m q _ => ∃ (many : Nat) (Ms U : List Mach), SeqM m d Ms ∧ MsOk many Ms U ∧ ∀ (p : Addr) (m' : Mem) (Ps : List (Mach × Addr)), m.le m' → m p = none → m' p = some (.dT (arrD Ps)) → ArrV many m' p Ps → (∀ L, L ∈ Ps.map Prod.fst ↔ Led many (leasts many Ms) L) → q (.ref p) m'
def sp_law_led : DSp := sp2 fun d e m q _ => ∃ (many : Nat) (Ps : List (Mach × Addr)) (Fs : List Mach), LedIn many m d e Ps Fs ∧ ∀ (r : Addr) (m' : Mem) (Os : List Mach), m.le m' → m r = none → m' r = some (.lst (Os.map machD)) → Os.Nodup → (∀ L, L ∈ Os ↔ Led many Fs L) → q (.ref r) m'
def sp_law_due : DSp := sp1 fun d m q _ => ∃ (many : Nat) (Ms U : List Mach), SeqM m d Ms ∧ MsOk many Ms U ∧ ∀ (r : Addr) (m' : Mem), m.le m' → m r = none → m' r = some (.lst ((dueL many Ms).map machD)) → q (.ref r) m'
def sp_law_formed : DSp := sp1 fun d m q _ => ∃ (many : Nat) (M : Mach), d = machD M ∧ IsMach many M ∧ q (.bl true) m

def N_is_whole : List Str := ["thing"]
def rd_is_whole (we : DWX) : DTS :=
  (dRet (dAndV (dCB isiD (dCons (dVar 0) (dCons (dC (.ty "int")) dNil))) (dNotV (dCB isiD (dCons (dVar 0) (dCons (dC (.ty "bool")) dNil))))))
def N_is_between : List Str := ["thing", "least", "most"]
def rd_is_between (we : DWX) : DTS :=
  (dRet (dAndV (dCall sp_is_whole we (dCons (dVar 0) dNil)) (dChain leD leD (dVar 1) (dVar 0) (dVar 2))))
def N_is_turn : List Str := ["thing", "letter"]
def rd_is_turn (we : DWX) : DTS :=
  (dSeq (dIfS (dOr (dNot (dTruth (dCB isiD (dCons (dVar 0) (dCons (dC (.ty "tuple")) dNil))))) (dNot (dTest (dChain leD leD (dC (.int 2)) (dCB lenD (dCons (dVar 0) dNil)) (dC (.int 4)))))) (dRet (dC (.bl false))) dNext)
  (dSeq (dIfS (dNot (dTruth (dCN allN (dComp (iSeq (dVar 0)) (gNm 1) dYes (dCall sp_is_between we0 (dCons (dVar 1) (dCons (dC (.int 0)) (dCons (dOp subD (dCB lenD (dCons (dVar 0) dNil)) (dC (.int 1))) dNil)))) [1])))) (dRet (dC (.bl false))) dNext)
  (dRet (dEqNN false (dCL sortD (dVar 0)) (dListRg (dCB lenD (dCons (dVar 0) dNil)))))))
def N_is_below : List Str := ["thing", "end"]
def rd_is_below (we : DWX) : DTS :=
  (dRet (dAndV (dCB isiD (dCons (dVar 0) (dCons (dC (.ty "int")) dNil))) (dAndV (dNotV (dCB isiD (dCons (dVar 0) (dCons (dC (.ty "bool")) dNil)))) (dChain leD ltD (dC (.int 0)) (dVar 0) (dVar 1)))))
def N_is_room : List Str := ["thing", "many", "rooms", "turn", "rests", "to"]
def rd_is_room (we : DWX) : DTS :=
  (dSeq (dIfS (dOr (dNot (dTruth (dCB isiD (dCons (dVar 0) (dCons (dC (.ty "tuple")) dNil))))) (dTest (dOp neD (dCB lenD (dCons (dVar 0) dNil)) (dC (.int 2))))) (dRet (dC (.bl false))) dNext)
  (dSeq (dAsg (dVar 0) (gTp 2 (gCn (gNm 3) (gCn (gNm 4) gNl))))
  (dSeq (dIfS (dOr (dNot (dTruth (dCall sp_is_turn we (dCons (dVar 3) dNil)))) (dOr (dTest (dOp neD (dCB lenD (dCons (dVar 3) dNil)) (dVar 1))) (dOr (dNot (dTruth (dCB isiD (dCons (dVar 4) (dCons (dC (.ty "tuple")) dNil))))) (dTest (dOp neD (dCB lenD (dCons (dVar 4) dNil)) (dVar 1)))))) (dRet (dC (.bl false))) dNext)
  (dRet (dCN allN (dComp (iSeq (dVar 4)) (gNm 5) dYes (dCall sp_is_below we0 (dCons (dVar 5) (dCons (dVar 2) dNil))) [5]))))))
def N_is_machine : List Str := ["thing", "first", "room"]
def rd_is_machine (we : DWX) : DTS :=
  (dSeq (dIfS (dOr (dNot (dTruth (dCB isiD (dCons (dVar 0) (dCons (dC (.ty "tuple")) dNil))))) (dNot (dTest (dChain leD leD (dC (.int 1)) (dCB lenD (dCons (dVar 0) dNil)) (dC (.int 60)))))) (dRet (dC (.bl false))) dNext)
  (dSeq (dAsg (dOp ixD (dVar 0) (dC (.int 0))) (gNm 1))
  (dSeq (dIfS (dOr (dNot (dTruth (dCB isiD (dCons (dVar 1) (dCons (dC (.ty "tuple")) dNil))))) (dOr (dTest (dOp neD (dCB lenD (dCons (dVar 1) dNil)) (dC (.int 2)))) (dNot (dTruth (dCall sp_is_turn we (dCons (dOp ixD (dVar 1) (dC (.int 0))) dNil)))))) (dRet (dC (.bl false))) dNext)
  (dRet (dCN allN (dComp (iSeq (dVar 0)) (gNm 2) dYes (dCall sp_is_room we0 (dCons (dVar 2) (dCons (dCB lenD (dCons (dOp ixD (dVar 1) (dC (.int 0))) dNil)) (dCons (dCB lenD (dCons (dVar 0) dNil)) dNil)))) [2]))))))
def N_sure_machine : List Str := ["machine"]
def rd_sure_machine (we : DWX) : DTS :=
  (dSeq (dIfS (dNot (dTruth (dCall sp_is_machine we (dCons (dVar 0) dNil)))) dNever dNext)
  (dRet (dVar 0)))
def N_numbered : List Str := ["things", "numbers", "thing"]
def rd_numbered (we : DWX) : DTS :=
  (dSeq (dAsg dDict0 (gNm 1))
  (dRet (dNew (dComp (iSeq (dVar 0)) (gNm 2) dYes (dSetdef (dVar 1) (dVar 2) (dCB lenG (dCons (dVar 1) dNil))) [2]))))
def N_room_marks : List Str := ["machine", "room", "marks", "known", "to", "at"]
def rd_room_marks_2w1 (we : DWX) : DTS :=
  (dAsg (dCall sp_numbered we (dCons (dNew (dComp (iEnum (dVar 0)) (gTp 2 (gCn (gNm 5) (gCn (gNm 1) gNl))) dYes (dTup (dCons (dOp ixD (dVar 2) (dVar 5)) (dCons (dCN (fun ds m q => q (.tup ds) m) (dComp (iSeq (dOp ixD (dVar 1) (dC (.int 1)))) (gNm 4) dYes (dOp ixD (dVar 2) (dVar 4)) [4])) dNil))) [5, 1])) dNil)) (gNm 2))
def rd_room_marks_2w (we : DWX) : DTS :=
  (dSeq (dAsg (dOp addD (dCB maxD (dCons (dVar 2) dNil)) (dC (.int 1))) (gNm 3))
  (rd_room_marks_2w1 we))
def rd_room_marks_3 (we : DWX) : DTS :=
  (dRet (dVar 2))
def rd_room_marks_2 (we : DWX) : DTS :=
  (dSeq (dWhile (dTest (dOp geD (dCB maxD (dCons (dVar 2) dNil)) (dVar 3))) (rd_room_marks_2w we))
  (rd_room_marks_3 we))
def rd_room_marks_1 (we : DWX) : DTS :=
  (dSeq (dAsg (dC (.int 0)) (gNm 3))
  (rd_room_marks_2 we))
def rd_room_marks (we : DWX) : DTS :=
  (dSeq (dAsg (dCall sp_numbered we (dCons (dNew (dComp (iSeq (dVar 0)) (gNm 1) dYes (dOp ixD (dVar 1) (dC (.int 0))) [1])) dNil)) (gNm 2))
  (rd_room_marks_1 we))
def N_least_from : List Str := ["machine", "room", "marks", "met", "places", "at", "to", "one"]
def rd_least_from_4w0f0t1 (we : DWX) : DTS :=
  (dDrop (dBM appendD (dVar 3) (dCons (dVar 6) dNil)))
def rd_least_from_4w0f0t (we : DWX) : DTS :=
  (dSeq (dSetG (dCB lenG (dCons (dVar 3) dNil)) (dVar 4) (dOp ixG (dVar 2) (dVar 6)))
  (rd_least_from_4w0f0t1 we))
def rd_least_from_4w0f (we : DWX) : DTS :=
  (dIfS (dTest (dOp (inG true) (dOp ixG (dVar 2) (dVar 6)) (dVar 4))) (rd_least_from_4w0f0t we) dNext)
def rd_least_from_4w1 (we : DWX) : DTS :=
  (dAug 5 (dC (.int 1)) addI)
def rd_least_from_4w (we : DWX) : DTS :=
  (dSeq (dFor (iSeq (dOp ixG (dOp ixG (dVar 0) (dOp ixG (dVar 3) (dVar 5))) (dC (.int 1)))) (gNm 6) (rd_least_from_4w0f we))
  (rd_least_from_4w1 we))
def rd_least_from_5 (we : DWX) : DTS :=
  (dRet (dCN (fun ds m q => q (.tup ds) m) (dComp (iSeq (dVar 3)) (gNm 7) dYes (dTup (dCons (dOp ixG (dOp ixG (dVar 0) (dVar 7)) (dC (.int 0))) (dCons (dCN (fun ds m q => q (.tup ds) m) (dComp (iSeq (dOp ixG (dOp ixG (dVar 0) (dVar 7)) (dC (.int 1)))) (gNm 6) dYes (dOp ixG (dVar 4) (dOp ixG (dVar 2) (dVar 6))) [6])) dNil))) [7])))
def rd_least_from_4 (we : DWX) : DTS :=
  (dSeq (dWhile (dTest (dOp ltD (dVar 5) (dCB lenG (dCons (dVar 3) dNil)))) (rd_least_from_4w we))
  (rd_least_from_5 we))
def rd_least_from_3 (we : DWX) : DTS :=
  (dSeq (dAsg (dC (.int 0)) (gNm 5))
  (rd_least_from_4 we))
def rd_least_from_2 (we : DWX) : DTS :=
  (dSeq (dAsg (dDisp1K (dOp ixG (dVar 2) (dVar 1)) (dC (.int 0))) (gNm 4))
  (rd_least_from_3 we))
def rd_least_from_1 (we : DWX) : DTS :=
  (dSeq (dAsg (dNew (dLst (dCons (dVar 1) dNil))) (gNm 3))
  (rd_least_from_2 we))
def rd_least_from (we : DWX) : DTS :=
  (dSeq (dAsg (dCall sp_room_marks we (dCons (dVar 0) dNil)) (gNm 2))
  (rd_least_from_1 we))
def N_least : List Str := ["machine"]
def rd_least (we : DWX) : DTS :=
  (dRet (dCall sp_least_from we (dCons (dCall sp_sure_machine we (dCons (dVar 0) dNil)) (dCons (dC (.int 0)) dNil))))
def N_begun_in : List Str := ["machine", "first", "places", "come", "at", "there", "room"]
def rd_begun_in_3w0f0t1 (we : DWX) : DTS :=
  (dDrop (dBM appendD (dVar 3) (dCons (dVar 5) dNil)))
def rd_begun_in_3w0f0t (we : DWX) : DTS :=
  (dSeq (dSetG (dCB lenG (dCons (dVar 3) dNil)) (dVar 2) (dVar 5))
  (rd_begun_in_3w0f0t1 we))
def rd_begun_in_3w0f (we : DWX) : DTS :=
  (dIfS (dTest (dOp (inG true) (dVar 5) (dVar 2))) (rd_begun_in_3w0f0t we) dNext)
def rd_begun_in_3w1 (we : DWX) : DTS :=
  (dAug 4 (dC (.int 1)) addI)
def rd_begun_in_3w (we : DWX) : DTS :=
  (dSeq (dFor (iSeq (dOp ixG (dOp ixG (dVar 0) (dOp ixG (dVar 3) (dVar 4))) (dC (.int 1)))) (gNm 5) (rd_begun_in_3w0f we))
  (rd_begun_in_3w1 we))
def rd_begun_in_4 (we : DWX) : DTS :=
  (dRet (dCN (fun ds m q => q (.tup ds) m) (dComp (iSeq (dVar 3)) (gNm 6) dYes (dTup (dCons (dOp ixG (dOp ixG (dVar 0) (dVar 6)) (dC (.int 0))) (dCons (dCN (fun ds m q => q (.tup ds) m) (dComp (iSeq (dOp ixG (dOp ixG (dVar 0) (dVar 6)) (dC (.int 1)))) (gNm 5) dYes (dOp ixG (dVar 2) (dVar 5)) [5])) dNil))) [6])))
def rd_begun_in_3 (we : DWX) : DTS :=
  (dSeq (dWhile (dTest (dOp ltD (dVar 4) (dCB lenG (dCons (dVar 3) dNil)))) (rd_begun_in_3w we))
  (rd_begun_in_4 we))
def rd_begun_in_2 (we : DWX) : DTS :=
  (dSeq (dAsg (dC (.int 0)) (gNm 4))
  (rd_begun_in_3 we))
def rd_begun_in_1 (we : DWX) : DTS :=
  (dSeq (dAsg (dNew (dLst (dCons (dVar 1) dNil))) (gNm 3))
  (rd_begun_in_2 we))
def rd_begun_in (we : DWX) : DTS :=
  (dSeq (dAsg (dDisp1K (dVar 1) (dC (.int 0))) (gNm 2))
  (rd_begun_in_1 we))
def N_begun : List Str := ["machine", "room"]
def rd_begun (we : DWX) : DTS :=
  (dRet (dNew (dComp (iSeq (dOp ixD (dOp ixD (dVar 0) (dC (.int 0))) (dC (.int 1)))) (gNm 1) dYes (dCall sp_begun_in we0 (dCons (dVar 0) (dCons (dVar 1) dNil))) [1])))
def N_unlike : List Str := ["machines", "arrows", "machine", "waiting", "one"]
def rd_unlike_1f1w4 (we : DWX) : DTS :=
  (dDrop (dBM extendD (dVar 3) (dCons (dOp ixG (dVar 1) (dVar 4)) dNil)))
def rd_unlike_1f1w3 (we : DWX) : DTS :=
  (dSeq (dSetG (dCall sp_begun we (dCons (dVar 4) dNil)) (dVar 1) (dVar 4))
  (rd_unlike_1f1w4 we))
def rd_unlike_1f1w2 (we : DWX) : DTS :=
  (dSeq (dIfS (dTest (dOp eqD (dCB lenG (dCons (dVar 1) dNil)) (dC (.int 60)))) dNever dNext)
  (rd_unlike_1f1w3 we))
def rd_unlike_1f1w1 (we : DWX) : DTS :=
  (dSeq (dIfS (dTest (dOp (inG false) (dVar 4) (dVar 1))) dCnt dNext)
  (rd_unlike_1f1w2 we))
def rd_unlike_1f1w (we : DWX) : DTS :=
  (dSeq (dAsg (dBM popD (dVar 3) dNil) (gNm 4))
  (rd_unlike_1f1w1 we))
def rd_unlike_1f1 (we : DWX) : DTS :=
  (dWhile (dTest (dNil? true (dVar 3))) (rd_unlike_1f1w we))
def rd_unlike_1f (we : DWX) : DTS :=
  (dSeq (dAsg (dNew (dLst (dCons (dCall sp_least we (dCons (dVar 2) dNil)) dNil))) (gNm 3))
  (rd_unlike_1f1 we))
def rd_unlike_2 (we : DWX) : DTS :=
  (dRet (dVar 1))
def rd_unlike_1 (we : DWX) : DTS :=
  (dSeq (dFor (iSeq (dVar 0)) (gNm 2) (rd_unlike_1f we))
  (rd_unlike_2 we))
def rd_unlike (we : DWX) : DTS :=
  (dSeq (dAsg dDictT (gNm 1))
  (rd_unlike_1 we))
def N_led_to : List Str := ["arrows", "firsts", "found", "waiting", "one"]
def rd_led_to_2w1t1 (we : DWX) : DTS :=
  (dDrop (dBM extendD (dVar 3) (dCons (dOp ixG (dVar 0) (dVar 4)) dNil)))
def rd_led_to_2w1t (we : DWX) : DTS :=
  (dSeq (dSetG (dC (.bl true)) (dVar 2) (dVar 4))
  (rd_led_to_2w1t1 we))
def rd_led_to_2w1 (we : DWX) : DTS :=
  (dIfS (dTest (dOp (inG true) (dVar 4) (dVar 2))) (rd_led_to_2w1t we) dNext)
def rd_led_to_2w (we : DWX) : DTS :=
  (dSeq (dAsg (dBM popD (dVar 3) dNil) (gNm 4))
  (rd_led_to_2w1 we))
def rd_led_to_3 (we : DWX) : DTS :=
  (dRet (dVar 2))
def rd_led_to_2 (we : DWX) : DTS :=
  (dSeq (dWhile (dTest (dNil? true (dVar 3))) (rd_led_to_2w we))
  (rd_led_to_3 we))
def rd_led_to_1 (we : DWX) : DTS :=
  (dSeq (dAsg (dNew (dCL listD (dVar 1))) (gNm 3))
  (rd_led_to_2 we))
def rd_led_to (we : DWX) : DTS :=
  (dSeq (dAsg dDictT (gNm 2))
  (rd_led_to_1 we))
def N_come_again : List Str := ["machines", "arrows", "one", "again_led"]
def rd_come_again_2 (P_come_again : Addr) (CL : List (Str × Addr)) (l_come_again_0 : LamSyn) (we : DWX) : DTS :=
  (dRet (dSortBy (dCons (dKeep P_come_again (lamQ "come_again") l_come_again_0 [] CL) dNil) l_come_again_0 (lamQ "come_again") CL (dTup (dCons (dCB lenG (dCons (dVar 4) dNil)) (dCons (dVar 4) dNil))) (dCall sp_led_to we (dCons (dVar 1) (dCons (dVar 3) dNil)))))
def rd_come_again_1 (P_come_again : Addr) (CL : List (Str × Addr)) (l_come_again_0 : LamSyn) (we : DWX) : DTS :=
  (dSeq (dAsg (dNew (dComp (iKeysT (dVar 1)) (gNm 2) (dTest (dOp (inG false) (dVar 2) (dCall sp_led_to we0 (dCons (dVar 1) (dCons (dOp ixG (dVar 1) (dVar 2)) dNil))))) (dVar 2) [2])) (gNm 3))
  (rd_come_again_2 P_come_again CL l_come_again_0 we))
def rd_come_again (P_come_again : Addr) (CL : List (Str × Addr)) (l_come_again_0 : LamSyn) (we : DWX) : DTS :=
  (dSeq (dAsg (dCall sp_unlike we (dCons (dVar 0) dNil)) (gNm 1))
  (rd_come_again_1 P_come_again CL l_come_again_0 we))
def N_again : List Str := ["machines", "machine", "letters"]
def rd_again_4 (P_come_again : Addr) (we : DWX) : DTS :=
  (dRet (dCall (sp_come_again P_come_again) we (dCons (dVar 0) dNil)))
def rd_again_3 (P_come_again : Addr) (we : DWX) : DTS :=
  (dSeq (dIfS (dTest (dNil? true (dNew (dComp (iSeq (dVar 0)) (gNm 1) (dTest (dOp neD (dCB lenD (dCons (dOp ixD (dOp ixD (dVar 1) (dC (.int 0))) (dC (.int 0))) dNil)) (dVar 2))) (dVar 1) [1])))) dNever dNext)
  (rd_again_4 P_come_again we))
def rd_again_2 (P_come_again : Addr) (we : DWX) : DTS :=
  (dSeq (dAsg (dCB lenD (dCons (dOp ixD (dOp ixD (dOp ixD (dVar 0) (dC (.int 0))) (dC (.int 0))) (dC (.int 0))) dNil)) (gNm 2))
  (rd_again_3 P_come_again we))
def rd_again_1 (P_come_again : Addr) (we : DWX) : DTS :=
  (dSeq (dIfS (dNot (dTruth (dCN allN (dComp (iSeq (dVar 0)) (gNm 1) dYes (dCall sp_is_machine we0 (dCons (dVar 1) dNil)) [1])))) dNever dNext)
  (rd_again_2 P_come_again we))
def rd_again (P_come_again : Addr) (we : DWX) : DTS :=
  (dSeq (dIfS (dOr (dNot (dTruth (dCB isiD (dCons (dVar 0) (dCons (dTup (dCons (dC (.ty "list")) (dCons (dC (.ty "tuple")) dNil))) dNil))))) (dNot (dTest (dChain leD leD (dC (.int 1)) (dCB lenD (dCons (dVar 0) dNil)) (dC (.int 60)))))) dNever dNext)
  (rd_again_1 P_come_again we))
def N_law_state : List Str := ["_law_script", "_law_k", "_law_cell", "_law_found", "_law_primes", "_law_prime", "_law_one"]
def rd_law_state_2 (we : DWX) : DTS :=
  (dSeq (dAsg (dC (.int 0)) (gNm 3))
  (dSeq (dAsg (dNew (dLst (dCons (dC (.int 2147483629)) (dCons (dC (.int 2147483587)) (dCons (dC (.int 2147483579)) (dCons (dC (.int 2147483563)) (dCons (dC (.int 2147483549)) (dCons (dC (.int 2147483543)) (dCons (dC (.int 2147483497)) (dCons (dC (.int 2147483489)) dNil)))))))))) (gNm 4))
  (dSeq (dFor (iSeq (dOp addD (dVar 4) (dNew (dLst (dCons (dC (.int 2147483477)) (dCons (dC (.int 2147483423)) (dCons (dC (.int 2147483399)) (dCons (dC (.int 2147483353)) (dCons (dC (.int 2147483323)) (dCons (dC (.int 2147483269)) (dCons (dC (.int 2147483249)) dNil))))))))))) (gNm 5) (dSeq (dAsg (dOp modD (dOp mulD (dOp powD (dOp addD (dOp addD (dOp modD (dVar 2) (dVar 5)) (dOp mulD (dC (.int 7919)) (dVar 1))) (dC (.int 48271))) (dC (.int 2))) (dC (.int 69621))) (dVar 5)) (gNm 6))
  (dAsg (dOp addD (dOp mulD (dVar 3) (dC (.int 2147483647))) (dOp modD (dOp mulD (dVar 6) (dOp addD (dVar 6) (dOp fdivD (dVar 5) (dC (.int 7))))) (dVar 5))) (gNm 3))))
  (dRet (dNew (dLst (dCons (dVar 3) dNil)))))))
def rd_law_state_1 (we : DWX) : DTS :=
  (dSeq (dIfS (dTest (dOp geD (dVar 2) (dOp powD (dC (.int 10)) (dC (.int 18))))) (dRet (dNew (dLst (dCons (dOp subD (dVar 2) (dOp powD (dC (.int 10)) (dC (.int 18)))) dNil)))) dNext)
  (rd_law_state_2 we))
def rd_law_state (we : DWX) : DTS :=
  (dSeq (dAsg (dIf (dTest (dNil? true (dVar 0))) (dCB absD (dCons (dOp ixD (dVar 0) (dOp modD (dVar 1) (dCB lenD (dCons (dVar 0) dNil)))) dNil)) (dC (.int 0))) (gNm 2))
  (rd_law_state_1 we))
def N_law_next : List Str := ["_law_state_here", "_law_most", "_law_found"]
def rd_law_next (we : DWX) : DTS :=
  (dSeq (dAsg (dOp modD (dOp ixD (dVar 0) (dC (.int 0))) (dVar 1)) (gNm 2))
  (dSeq (dSetIx (dOp fdivD (dOp ixD (dVar 0) (dC (.int 0))) (dVar 1)) (dVar 0) (dC (.int 0)))
  (dRet (dVar 2))))
def N_law_turn : List Str := ["_law_state_here", "_law_many", "_law_kinds", "_law_left", "_law_k", "_law_turn_here"]
def rd_law_turn (we : DWX) : DTS :=
  (dSeq (dAsg (dNew (dListRg (dVar 1))) (gNm 3))
  (dSeq (dAsg (dNew (dComp (iRange1 (dVar 1)) (gNm 4) dYes (dBM popAtD (dVar 3) (dCons (dCall sp_law_next we0 (dCons (dVar 0) (dCons (dCB lenD (dCons (dVar 3) dNil)) dNil))) dNil)) [4])) (gNm 5))
  (dSeq (dIfS (dTest (dOp eqD (dVar 2) (dC (.int 0)))) (dRet (dTupRgF (dVar 1))) dNext)
  (dSeq (dIfS (dTest (dOp eqD (dVar 2) (dC (.int 1)))) (dRet (dOp addF3 (dTupF (dCons (dC (.int 1)) (dCons (dC (.int 0)) dNil))) (dTupRg2 (dC (.int 2)) (dVar 1)))) dNext)
  (dRet (dCB ftupleD (dCons (dVar 5) dNil)))))))
def N_law_machine : List Str := ["_law_state_here", "_law_many", "_law_onward", "_law_size", "_law_rooms", "_law_k", "_law_turn_here", "_law_letter", "_law_there", "_law_one"]
def rd_law_machine_3f3 (we : DWX) : DTS :=
  (dDrop (dBM appendD (dVar 4) (dCons (dTup (dCons (dVar 6) (dCons (dCB tupleD (dCons (dVar 8) dNil)) dNil))) dNil)))
def rd_law_machine_3f2 (we : DWX) : DTS :=
  (dSeq (dIfS (dTruth (dVar 2)) (dAsg (dNew (dComp (iSeq (dVar 8)) (gNm 9) dYes (dCB max2D (dCons (dVar 5) (dCons (dVar 9) dNil))) [9])) (gNm 8)) dNext)
  (rd_law_machine_3f3 we))
def rd_law_machine_3f1 (we : DWX) : DTS :=
  (dSeq (dAsg (dNew (dComp (iRange1 (dVar 1)) (gNm 7) dYes (dCall sp_law_next we0 (dCons (dVar 0) (dCons (dVar 3) dNil))) [7])) (gNm 8))
  (rd_law_machine_3f2 we))
def rd_law_machine_3f (we : DWX) : DTS :=
  (dSeq (dAsg (dCall sp_law_turn we (dCons (dVar 0) (dCons (dVar 1) (dCons (dCall sp_law_next we (dCons (dVar 0) (dCons (dC (.int 4)) dNil))) dNil)))) (gNm 6))
  (rd_law_machine_3f1 we))
def rd_law_machine_4 (we : DWX) : DTS :=
  (dRet (dCB tupleD (dCons (dVar 4) dNil)))
def rd_law_machine_3 (we : DWX) : DTS :=
  (dSeq (dFor (iRange1 (dVar 3)) (gNm 5) (rd_law_machine_3f we))
  (rd_law_machine_4 we))
def rd_law_machine_2 (we : DWX) : DTS :=
  (dSeq (dAsg (dNew (dLst dNil)) (gNm 4))
  (rd_law_machine_3 we))
def rd_law_machine_1 (we : DWX) : DTS :=
  (dSeq (dAsg (dOp addD (dC (.int 1)) (dCall sp_law_next we (dCons (dVar 0) (dCons (dC (.int 6)) dNil)))) (gNm 3))
  (rd_law_machine_2 we))
def rd_law_machine (we : DWX) : DTS :=
  (dSeq (dAsg (dOp eqD (dCall sp_law_next we (dCons (dVar 0) (dCons (dC (.int 2)) dNil))) (dC (.int 0))) (gNm 2))
  (rd_law_machine_1 we))
def N_law_come : List Str := ["_law_rooms", "_law_first", "_law_found", "_law_at", "_law_there"]
def rd_law_come_2w0f (we : DWX) : DTS :=
  (dIfS (dTest (dOp (inA true) (dVar 4) (dVar 2))) (dDrop (dBM appendD (dVar 2) (dCons (dVar 4) dNil))) dNext)
def rd_law_come_2w1 (we : DWX) : DTS :=
  (dAsg (dOp addD (dVar 3) (dC (.int 1))) (gNm 3))
def rd_law_come_2w (we : DWX) : DTS :=
  (dSeq (dFor (iSeq (dOp ixD (dOp ixD (dVar 0) (dOp ixD (dVar 2) (dVar 3))) (dC (.int 1)))) (gNm 4) (rd_law_come_2w0f we))
  (rd_law_come_2w1 we))
def rd_law_come_3 (we : DWX) : DTS :=
  (dRet (dVar 2))
def rd_law_come_2 (we : DWX) : DTS :=
  (dSeq (dWhile (dTest (dOp ltD (dVar 3) (dCB lenD (dCons (dVar 2) dNil)))) (rd_law_come_2w we))
  (rd_law_come_3 we))
def rd_law_come_1 (we : DWX) : DTS :=
  (dSeq (dAsg (dC (.int 0)) (gNm 3))
  (rd_law_come_2 we))
def rd_law_come (we : DWX) : DTS :=
  (dSeq (dAsg (dNew (dLst (dCons (dVar 1) dNil))) (gNm 2))
  (rd_law_come_1 we))
def N_law_numbered : List Str := ["_law_rows", "_law_rooms", "_law_met", "_law_numbers", "_law_room", "_law_row"]
def rd_law_numbered_2f1 (we : DWX) : DTS :=
  (dSetG (dBM lidxD (dVar 2) (dCons (dVar 5) dNil)) (dVar 3) (dVar 4))
def rd_law_numbered_2f (we : DWX) : DTS :=
  (dSeq (dIfS (dTest (dOp (inA true) (dVar 5) (dVar 2))) (dDrop (dBM appendD (dVar 2) (dCons (dVar 5) dNil))) dNext)
  (rd_law_numbered_2f1 we))
def rd_law_numbered_3 (we : DWX) : DTS :=
  (dRet (dVar 3))
def rd_law_numbered_2 (we : DWX) : DTS :=
  (dSeq (dFor (iZip (dVar 1) (dVar 0)) (gTp 2 (gCn (gNm 4) (gCn (gNm 5) gNl))) (rd_law_numbered_2f we))
  (rd_law_numbered_3 we))
def rd_law_numbered_1 (we : DWX) : DTS :=
  (dSeq (dAsg dDict0 (gNm 3))
  (rd_law_numbered_2 we))
def rd_law_numbered (we : DWX) : DTS :=
  (dSeq (dAsg (dNew (dLst dNil)) (gNm 2))
  (rd_law_numbered_1 we))
def N_law_least : List Str := ["_law_rooms", "_law_first", "_law_come_here", "_law_room", "_law_kinds", "_law_many", "_law_there", "_law_rows", "_law_kind", "_law_firsts", "_law_small", "_law_placing"]
def rd_law_least_3w2 (we : DWX) : DTS :=
  (dAsg (dCall sp_law_numbered we (dCons (dVar 7) (dCons (dVar 2) dNil))) (gNm 4))
def rd_law_least_3w1 (we : DWX) : DTS :=
  (dSeq (dAsg (dNew (dComp (iSeq (dVar 2)) (gNm 3) dYes (dTup (dCons (dOp ixG (dVar 4) (dVar 3)) (dCons (dNew (dComp (iSeq (dOp ixG (dOp ixG (dVar 0) (dVar 3)) (dC (.int 1)))) (gNm 6) dYes (dOp ixG (dVar 4) (dVar 6)) [6])) dNil))) [3])) (gNm 7))
  (rd_law_least_3w2 we))
def rd_law_least_3w (we : DWX) : DTS :=
  (dSeq (dAsg (dOp addD (dMaxV false dNil (dVar 4)) (dC (.int 1))) (gNm 5))
  (rd_law_least_3w1 we))
def rd_law_least_7 (we : DWX) : DTS :=
  (dRet (dCN (fun ds m q => q (.tup ds) m) (dComp (iSeq (dVar 11)) (gNm 8) dYes (dTup (dCons (dOp ixG (dOp ixG (dVar 10) (dVar 8)) (dC (.int 0))) (dCons (dCN (fun ds m q => q (.tup ds) m) (dComp (iSeq (dOp ixG (dOp ixG (dVar 10) (dVar 8)) (dC (.int 1)))) (gNm 6) dYes (dBM lidxD (dVar 11) (dCons (dVar 6) dNil)) [6])) dNil))) [8])))
def rd_law_least_6 (we : DWX) : DTS :=
  (dSeq (dAsg (dCall sp_law_come we (dCons (dVar 10) (dCons (dOp ixG (dVar 4) (dVar 1)) dNil))) (gNm 11))
  (rd_law_least_7 we))
def rd_law_least_5 (we : DWX) : DTS :=
  (dSeq (dAsg (dNew (dComp (iSeq (dVar 9)) (gNm 3) dYes (dTup (dCons (dOp ixG (dOp ixG (dVar 0) (dVar 3)) (dC (.int 0))) (dCons (dNew (dComp (iSeq (dOp ixG (dOp ixG (dVar 0) (dVar 3)) (dC (.int 1)))) (gNm 6) dYes (dOp ixG (dVar 4) (dVar 6)) [6])) dNil))) [3])) (gNm 10))
  (rd_law_least_6 we))
def rd_law_least_4 (we : DWX) : DTS :=
  (dSeq (dAsg (dNew (dComp (iRange1 (dVar 5)) (gNm 8) dYes (dOp ixG (dNew (dComp (iSeq (dVar 2)) (gNm 3) (dTest (dOp eqD (dOp ixG (dVar 4) (dVar 3)) (dVar 8))) (dVar 3) [3])) (dC (.int 0))) [8])) (gNm 9))
  (rd_law_least_5 we))
def rd_law_least_3 (we : DWX) : DTS :=
  (dSeq (dWhile (dTest (dOp ltD (dVar 5) (dOp addD (dMaxV false dNil (dVar 4)) (dC (.int 1))))) (rd_law_least_3w we))
  (rd_law_least_4 we))
def rd_law_least_2 (we : DWX) : DTS :=
  (dSeq (dAsg (dC (.int 0)) (gNm 5))
  (rd_law_least_3 we))
def rd_law_least_1 (we : DWX) : DTS :=
  (dSeq (dAsg (dCall sp_law_numbered we (dCons (dNew (dComp (iSeq (dVar 2)) (gNm 3) dYes (dOp ixG (dOp ixG (dVar 0) (dVar 3)) (dC (.int 0))) [3])) (dCons (dVar 2) dNil))) (gNm 4))
  (rd_law_least_2 we))
def rd_law_least (we : DWX) : DTS :=
  (dSeq (dAsg (dCall sp_law_come we (dCons (dVar 0) (dCons (dVar 1) dNil))) (gNm 2))
  (rd_law_least_1 we))
def N_law_arrows : List Str := ["_law_machines", "_law_found", "_law_machine_here", "_law_room", "_law_one", "_law_there"]
def rd_law_arrows_1f0f1 (we : DWX) : DTS :=
  (dIfS (dTest (dOp (inG true) (dVar 4) (dVar 1))) (dSetG (dNew (dComp (iSeq (dOp ixG (dOp ixG (dVar 4) (dC (.int 0))) (dC (.int 1)))) (gNm 5) dYes (dCall sp_law_least we0 (dCons (dVar 4) (dCons (dVar 5) dNil))) [5])) (dVar 1) (dVar 4)) dNext)
def rd_law_arrows_1f0f (we : DWX) : DTS :=
  (dSeq (dAsg (dCall sp_law_least we (dCons (dVar 2) (dCons (dVar 3) dNil))) (gNm 4))
  (rd_law_arrows_1f0f1 we))
def rd_law_arrows_1f (we : DWX) : DTS :=
  (dFor (iSeq (dCall sp_law_come we (dCons (dVar 2) (dCons (dC (.int 0)) dNil)))) (gNm 3) (rd_law_arrows_1f0f we))
def rd_law_arrows_2 (we : DWX) : DTS :=
  (dRet (dVar 1))
def rd_law_arrows_1 (we : DWX) : DTS :=
  (dSeq (dFor (iSeq (dVar 0)) (gNm 2) (rd_law_arrows_1f we))
  (rd_law_arrows_2 we))
def rd_law_arrows (we : DWX) : DTS :=
  (dSeq (dAsg dDictT (gNm 1))
  (rd_law_arrows_1 we))
def N_law_led : List Str := ["_law_arrows_here", "_law_firsts", "_law_found", "_law_waiting", "_law_one"]
def rd_law_led_2w1t1 (we : DWX) : DTS :=
  (dAsg (dOp addD (dVar 3) (dOp ixG (dVar 0) (dVar 4))) (gNm 3))
def rd_law_led_2w1t (we : DWX) : DTS :=
  (dSeq (dDrop (dBM appendD (dVar 2) (dCons (dVar 4) dNil)))
  (rd_law_led_2w1t1 we))
def rd_law_led_2w1 (we : DWX) : DTS :=
  (dIfS (dTest (dOp (inA true) (dVar 4) (dVar 2))) (rd_law_led_2w1t we) dNext)
def rd_law_led_2w (we : DWX) : DTS :=
  (dSeq (dAsg (dBM popD (dVar 3) dNil) (gNm 4))
  (rd_law_led_2w1 we))
def rd_law_led_3 (we : DWX) : DTS :=
  (dRet (dVar 2))
def rd_law_led_2 (we : DWX) : DTS :=
  (dSeq (dWhile (dTest (dNil? true (dVar 3))) (rd_law_led_2w we))
  (rd_law_led_3 we))
def rd_law_led_1 (we : DWX) : DTS :=
  (dSeq (dAsg (dNew (dCL listD (dVar 1))) (gNm 3))
  (rd_law_led_2 we))
def rd_law_led (we : DWX) : DTS :=
  (dSeq (dAsg (dNew (dLst dNil)) (gNm 2))
  (rd_law_led_1 we))
def N_law_due : List Str := ["_law_machines", "_law_arrows_here", "_law_one", "_law_home", "_law_found", "_law_many"]
def rd_law_due_3 (we : DWX) : DTS :=
  (dRet (dNew (dComp (iNew (dCL sortX (dVar 4))) (gTp 2 (gCn (gNm 5) (gCn (gNm 2) gNl))) dYes (dVar 2) [5, 2])))
def rd_law_due_2 (we : DWX) : DTS :=
  (dSeq (dAsg (dNew (dComp (iSeq (dCall sp_law_led we (dCons (dVar 1) (dCons (dVar 3) dNil)))) (gNm 2) dYes (dTup (dCons (dCB lenG (dCons (dVar 2) dNil)) (dCons (dVar 2) dNil))) [2])) (gNm 4))
  (rd_law_due_3 we))
def rd_law_due_1 (we : DWX) : DTS :=
  (dSeq (dAsg (dNew (dComp (iKeysT (dVar 1)) (gNm 2) (dTest (dOp (inA false) (dVar 2) (dCall sp_law_led we0 (dCons (dVar 1) (dCons (dOp ixG (dVar 1) (dVar 2)) dNil))))) (dVar 2) [2])) (gNm 3))
  (rd_law_due_2 we))
def rd_law_due (we : DWX) : DTS :=
  (dSeq (dAsg (dCall sp_law_arrows we (dCons (dVar 0) dNil)) (gNm 1))
  (rd_law_due_1 we))
def N_law_formed : List Str := ["_law_machine_here", "_law_room", "_law_part", "_law_one"]
def rd_law_formed_1f0f (we : DWX) : DTS :=
  (dIfS (dOr (dNot (dTruth (dCB isiD (dCons (dVar 2) (dCons (dC (.ty "tuple")) dNil))))) (dTruth (dNew (dComp (iSeq (dVar 2)) (gNm 3) (dOr (dNot (dTruth (dCB isiD (dCons (dVar 3) (dCons (dC (.ty "int")) dNil))))) (dTruth (dCB isiD (dCons (dVar 3) (dCons (dC (.ty "bool")) dNil))))) (dC (.int 1)) [3])))) (dRet (dC (.bl false))) dNext)
def rd_law_formed_1f (we : DWX) : DTS :=
  (dFor (iSeq (dVar 1)) (gNm 2) (rd_law_formed_1f0f we))
def rd_law_formed_2 (we : DWX) : DTS :=
  (dRet (dC (.bl true)))
def rd_law_formed_1 (we : DWX) : DTS :=
  (dSeq (dFor (iSeq (dVar 0)) (gNm 1) (rd_law_formed_1f we))
  (rd_law_formed_2 we))
def rd_law_formed (we : DWX) : DTS :=
  (dSeq (dIfS (dOr (dNot (dTruth (dCB isiD (dCons (dVar 0) (dCons (dC (.ty "tuple")) dNil))))) (dTest (dNil? true (dNew (dComp (iSeq (dVar 0)) (gNm 1) (dNot (dTruth (dCB isiD (dCons (dVar 1) (dCons (dC (.ty "tuple")) dNil))))) (dVar 1) [1]))))) (dRet (dC (.bl false))) dNext)
  (rd_law_formed_1 we))
def N_law : List Str := ["_law_script", "_law_k", "_law_state_here", "_law_twice", "_law_tupled", "_law_many", "_law_j", "_law_machines", "_law_due_here", "_law_handed", "_law_found", "_law_one", "_law_kept", "_law_told"]
def rd_law_0f18 (P_come_again : Addr) (we : DWX) : DTS :=
  (dIfS (dTest (dOp neD (dVar 8) (dVar 12))) (dRet (dC (.bl false))) dNext)
def rd_law_0f17 (P_come_again : Addr) (we : DWX) : DTS :=
  (dSeq (dDrop (dBM appendD (dVar 13) (dCons (dOp ixD (dVar 7) (dC (.int 0))) dNil)))
  (rd_law_0f18 P_come_again we))
def rd_law_0f16 (P_come_again : Addr) (we : DWX) : DTS :=
  (dSeq (dIfS (dOr (dTest (dOp neD (dCall (sp_again P_come_again) we (dCons (dVar 7) dNil)) (dVar 8))) (dTest (dOp neD (dVar 13) (dVar 8)))) (dRet (dC (.bl false))) dNext)
  (rd_law_0f17 P_come_again we))
def rd_law_0f15 (P_come_again : Addr) (we : DWX) : DTS :=
  (dSeq (dAsg (dCall (sp_again P_come_again) we (dCons (dVar 8) dNil)) (gNm 13))
  (rd_law_0f16 P_come_again we))
def rd_law_0f14 (P_come_again : Addr) (we : DWX) : DTS :=
  (dSeq (dAsg (dNew (dCL listD (dVar 8))) (gNm 12))
  (rd_law_0f15 P_come_again we))
def rd_law_0f13 (P_come_again : Addr) (we : DWX) : DTS :=
  (dSeq (dDrop (dBM appendD (dVar 10) (dCons (dOp ixD (dVar 7) (dC (.int 0))) dNil)))
  (rd_law_0f14 P_come_again we))
def rd_law_0f12 (P_come_again : Addr) (we : DWX) : DTS :=
  (dSeq (dDrop (dBM reverseD (dVar 10) dNil))
  (rd_law_0f13 P_come_again we))
def rd_law_0f11 (P_come_again : Addr) (we : DWX) : DTS :=
  (dSeq (dIfS (dOr (dNot (dTruth (dCB isiD (dCons (dVar 10) (dCons (dC (.ty "list")) dNil))))) (dOr (dTest (dOp neD (dVar 10) (dVar 8))) (dTest (dOp (inA false) (dC (.bl false)) (dNew (dComp (iSeq (dVar 10)) (gNm 11) dYes (dCall sp_law_formed we0 (dCons (dVar 11) dNil)) [11])))))) (dRet (dC (.bl false))) dNext)
  (rd_law_0f12 P_come_again we))
def rd_law_0f10 (P_come_again : Addr) (we : DWX) : DTS :=
  (dSeq (dIfS (dTest (dOp neD (dNew (dCL listD (dVar 9))) (dVar 7))) (dRet (dC (.bl false))) dNext)
  (rd_law_0f11 P_come_again we))
def rd_law_0f9 (P_come_again : Addr) (we : DWX) : DTS :=
  (dSeq (dAsg (dCall (sp_again P_come_again) we (dCons (dVar 9) dNil)) (gNm 10))
  (rd_law_0f10 P_come_again we))
def rd_law_0f8 (P_come_again : Addr) (we : DWX) : DTS :=
  (dSeq (dAsg (dIf (dTruth (dVar 4)) (dCB tupleD (dCons (dVar 7) dNil)) (dNew (dCL listD (dVar 7)))) (gNm 9))
  (rd_law_0f9 P_come_again we))
def rd_law_0f7 (P_come_again : Addr) (we : DWX) : DTS :=
  (dSeq (dAsg (dCall sp_law_due we (dCons (dVar 7) dNil)) (gNm 8))
  (rd_law_0f8 P_come_again we))
def rd_law_0f6 (P_come_again : Addr) (we : DWX) : DTS :=
  (dSeq (dIfS (dTest (dOp eqD (dVar 3) (dC (.int 2)))) (dDrop (dBM appendD (dVar 7) (dCons (dCall sp_law_least we (dCons (dOp ixD (dVar 7) (dC (.int 0))) (dCons (dC (.int 0)) dNil))) dNil))) dNext)
  (rd_law_0f7 P_come_again we))
def rd_law_0f5 (P_come_again : Addr) (we : DWX) : DTS :=
  (dSeq (dIfS (dTest (dOp eqD (dVar 3) (dC (.int 1)))) (dDrop (dBM appendD (dVar 7) (dCons (dOp ixD (dVar 7) (dC (.int 0))) dNil))) dNext)
  (rd_law_0f6 P_come_again we))
def rd_law_0f4 (P_come_again : Addr) (we : DWX) : DTS :=
  (dSeq (dAsg (dNew (dComp (iRange1 (dOp ixD (dNew (dLst (dCons (dC (.int 1)) (dCons (dC (.int 1)) (dCons (dC (.int 2)) (dCons (dC (.int 3)) dNil)))))) (dCall sp_law_next we (dCons (dVar 2) (dCons (dC (.int 4)) dNil))))) (gNm 6) dYes (dCall sp_law_machine we0 (dCons (dVar 2) (dCons (dVar 5) dNil))) [6])) (gNm 7))
  (rd_law_0f5 P_come_again we))
def rd_law_0f3 (P_come_again : Addr) (we : DWX) : DTS :=
  (dSeq (dAsg (dOp addD (dC (.int 2)) (dCall sp_law_next we (dCons (dVar 2) (dCons (dC (.int 2)) dNil)))) (gNm 5))
  (rd_law_0f4 P_come_again we))
def rd_law_0f2 (P_come_again : Addr) (we : DWX) : DTS :=
  (dSeq (dAsg (dOp eqD (dCall sp_law_next we (dCons (dVar 2) (dCons (dC (.int 2)) dNil))) (dC (.int 0))) (gNm 4))
  (rd_law_0f3 P_come_again we))
def rd_law_0f1 (P_come_again : Addr) (we : DWX) : DTS :=
  (dSeq (dAsg (dCall sp_law_next we (dCons (dVar 2) (dCons (dC (.int 4)) dNil))) (gNm 3))
  (rd_law_0f2 P_come_again we))
def rd_law_0f (P_come_again : Addr) (we : DWX) : DTS :=
  (dSeq (dAsg (dCall sp_law_state we (dCons (dVar 0) (dCons (dVar 1) dNil))) (gNm 2))
  (rd_law_0f1 P_come_again we))
def rd_law_1 (P_come_again : Addr) (we : DWX) : DTS :=
  (dRet (dC (.bl true)))
def rd_law (P_come_again : Addr) (we : DWX) : DTS :=
  (dSeq (dFor (iRange1 (dCB max2D (dCons (dC (.int 1)) (dCons (dCB min2D (dCons (dC (.int 3)) (dCons (dCB lenD (dCons (dVar 0) dNil)) dNil))) dNil)))) (gNm 1) (rd_law_0f P_come_again we))
  (rd_law_1 P_come_again we))

theorem rdok_is_whole {ds m q qe} (h : sp_is_whole ds m q qe) : rd_is_whole (fun cls _ m => qe cls m) (defEnds q) (startD N_is_whole ds) m := by
  obtain ⟨d, e0, h1, hq⟩ := sp1_at h
  clear h
  subst e0
  show rd_is_whole _ (defEnds q) [some d] m
  unfold kn at h1
  cases d with
  | ref a =>
    cases e : m a with
    | none => simp [tyS, e] at h1
    | some o =>
      cases o with
      | lst xs => unfold rd_is_whole; walk_at "rd"; simp only [e]; exact defEnds_here hq
      | dK kvs => unfold rd_is_whole; walk_at "rd"; simp only [e]; exact defEnds_here hq
      | dF kvs => unfold rd_is_whole; walk_at "rd"; simp only [e]; exact defEnds_here hq
      | _ => simp [tyS, e] at h1
  | ty n => simp [tyS] at h1
  | _ => unfold rd_is_whole; walk_at "rd"; exact defEnds_here hq
theorem rdok_is_between {ds m q qe} (h : sp_is_between ds m q qe) : rd_is_between (fun cls _ m => qe cls m) (defEnds q) (startD N_is_between ds) m := by
  obtain ⟨d, l, u, e0, h1, i, j, e1, e2, hq⟩ := sp3_at h
  clear h
  subst e0 e1 e2
  show rd_is_between _ (defEnds q) [some d, some (.int i), some (.int j)] m
  unfold rd_is_between
  walk_at "rd"
  refine ⟨h1, ?_⟩
  cases d with
  | int k =>
    simp only [isWhole, if_true]
    walk_at "rd"
    by_cases e : i ≤ k
    · simp only [e, decide_true, if_true]
      refine defEnds_here ?_
      simpa [betw, e] using hq
    · simp only [e, decide_false, Bool.false_eq_true, if_false]
      refine defEnds_here ?_
      simpa [betw, e] using hq
  | _ => exact defEnds_here hq
theorem isTurnD_tup {xs : List D} (h : ¬ (2 ≤ xs.length ∧ xs.length ≤ 4)) : isTurnD (.tup xs) = false := by
  cases e : intsOf xs with
  | none => simp only [isTurnD, e]
  | some ns =>
    have := intsOf_ok e
    rw [this, List.length_map] at h
    simp only [isTurnD, e, isTurnL]
    by_cases h1 : 2 ≤ ns.length
    · have h2 : ¬ ns.length ≤ 4 := fun z => h ⟨h1, z⟩
      simp [h2]
    · simp [h1]
theorem isTurnD_ftup {xs : List D} (h : ¬ (2 ≤ xs.length ∧ xs.length ≤ 4)) : isTurnD (.ftup xs) = false := by
  cases e : intsOf xs with
  | none => simp only [isTurnD, e]
  | some ns =>
    have := intsOf_ok e
    rw [this, List.length_map] at h
    simp only [isTurnD, e, isTurnL]
    by_cases h1 : 2 ≤ ns.length
    · have h2 : ¬ ns.length ≤ 4 := fun z => h ⟨h1, z⟩
      simp [h2]
    · simp [h1]
theorem rdok_is_turn {ds m q qe} (h : sp_is_turn ds m q qe) : rd_is_turn (fun cls _ m => qe cls m) (defEnds q) (startD N_is_turn ds) m := by
  obtain ⟨d, e0, h1, hq⟩ := sp1_at h
  clear h
  subst e0
  show rd_is_turn _ (defEnds q) [some d, none] m
  unfold rd_is_turn
  unfold knT at h1
  cases d with
  | ref a =>
    unfold kn at h1
    cases e : m a with
    | none => simp [tyS, e] at h1
    | some o =>
      cases o with
      | lst xs => walk_at "rd"; simp only [e, Bool.not_false, if_true]; exact defEnds_here hq
      | dK kvs => walk_at "rd"; simp only [e, Bool.not_false, if_true]; exact defEnds_here hq
      | dF kvs => walk_at "rd"; simp only [e, Bool.not_false, if_true]; exact defEnds_here hq
      | _ => simp [tyS, e] at h1
  | ty n => simp [kn, tyS] at h1
  | tup xs =>
    have h1 : ∀ e ∈ xs, kn m e := h1
    walk_at "rd"
    by_cases l1 : (2 : Int) ≤ xs.length
    · by_cases l2 : (xs.length : Int) ≤ 4
      · simp only [l1, l2, decide_true, if_true, Bool.not_true, Bool.false_eq_true, if_false]
        refine comp_map (fun d => .bl (betw d 0 (xs.length - 1))) trivial xs [] (fun d hd K hK => ?_) (by rw [List.length_nil]; exact sized (by omega)) ?_
        · walk_at "rd"
          exact ⟨h1 d hd, _, _, rfl, rfl, hK⟩
        · rw [List.nil_append, show (xs.map fun d => D.bl (betw d 0 (xs.length - 1))) = (xs.map fun d => betw d 0 (xs.length - 1)).map D.bl by rw [List.map_map]; rfl, boolsOf_map]
          simp only [List.all_map, Function.comp_def, id]
          by_cases ha : xs.all (fun d => betw d 0 (xs.length - 1)) = true
          · simp only [ha, Bool.not_true, Bool.false_eq_true, if_false]
            obtain ⟨ns, e, hn⟩ := intsOf_all ha
            have ex := intsOf_ok e
            subst ex
            rw [intsOf_map]
            rw [List.length_map] at *
            refine ⟨by omega, fun ns' hp hs => ⟨?_, ?_⟩⟩
            · exact RgOk.of_le (by omega) (by omega) (by omega) (by omega)
            · rw [Int.toNat_natCast, rngD0]
              refine eqLs_ints ?_
              refine defEnds_here ?_
              have hq : q (.bl (isTurnL ns)) m := by
                have := hq
                simp only [isTurnD, intsOf_map] at this
                exact this
              have e2 : isTurnL ns = decide (ns' = rngI ns.length) := by
                have l1' : 2 ≤ ns.length := by omega
                have l2' : ns.length ≤ 4 := by omega
                simp only [isTurnL, l1', l2', decide_true, Bool.true_and]
                by_cases hq : ns.Perm (rngI ns.length)
                · rw [decide_eq_true hq, decide_eq_true (sorted_one (hp.trans hq) hs (rngI_sorted _))]
                · rw [decide_eq_false hq, decide_eq_false (fun z => hq (by rw [z] at hp; exact hp.symm))]
              rw [e2] at hq
              simpa using hq
          · have ha' : xs.all (fun d => betw d 0 (xs.length - 1)) = false := by simpa using ha
            simp only [ha', Bool.not_false, if_true]
            refine defEnds_here ?_
            have e2 : isTurnD (.tup xs) = false := by
              cases e : intsOf xs with
              | none => simp only [isTurnD, e]
              | some ns =>
                have ex := intsOf_ok e
                subst ex
                simp only [isTurnD, e]
                cases ht : isTurnL ns with
                | false => rfl
                | true =>
                  have hb := turn_bounds ht
                  have := all_of_ints (i := 0) (j := ns.length - 1) (fun n hn => by have := hb n hn; omega)
                  rw [List.length_map] at ha'
                  rw [this] at ha'
                  cases ha'
            rw [e2] at hq
            exact hq
      · have e2 := isTurnD_tup (xs := xs) (by omega)
        rw [e2] at hq
        simp only [l1, l2, decide_true, decide_false, if_true, Bool.not_false]
        exact defEnds_here hq
    · have e2 := isTurnD_tup (xs := xs) (by omega)
      rw [e2] at hq
      simp only [l1, decide_false, Bool.false_eq_true, if_false, Bool.not_false, if_true]
      exact defEnds_here hq
  | ftup xs =>
    have h1 : ∀ e ∈ xs, kn m e := h1
    walk_at "rd"
    by_cases l1 : (2 : Int) ≤ xs.length
    · by_cases l2 : (xs.length : Int) ≤ 4
      · simp only [l1, l2, decide_true, if_true, Bool.not_true, Bool.false_eq_true, if_false]
        refine comp_map (fun d => .bl (betw d 0 (xs.length - 1))) trivial xs [] (fun d hd K hK => ?_) (by rw [List.length_nil]; exact sized (by omega)) ?_
        · walk_at "rd"
          exact ⟨h1 d hd, _, _, rfl, rfl, hK⟩
        · rw [List.nil_append, show (xs.map fun d => D.bl (betw d 0 (xs.length - 1))) = (xs.map fun d => betw d 0 (xs.length - 1)).map D.bl by rw [List.map_map]; rfl, boolsOf_map]
          simp only [List.all_map, Function.comp_def, id]
          by_cases ha : xs.all (fun d => betw d 0 (xs.length - 1)) = true
          · simp only [ha, Bool.not_true, Bool.false_eq_true, if_false]
            obtain ⟨ns, e, hn⟩ := intsOf_all ha
            have ex := intsOf_ok e
            subst ex
            rw [intsOf_map]
            rw [List.length_map] at *
            refine ⟨by omega, fun ns' hp hs => ⟨?_, ?_⟩⟩
            · exact RgOk.of_le (by omega) (by omega) (by omega) (by omega)
            · rw [Int.toNat_natCast, rngD0]
              refine eqLs_ints ?_
              refine defEnds_here ?_
              have hq : q (.bl (isTurnL ns)) m := by
                have := hq
                simp only [isTurnD, intsOf_map] at this
                exact this
              have e2 : isTurnL ns = decide (ns' = rngI ns.length) := by
                have l1' : 2 ≤ ns.length := by omega
                have l2' : ns.length ≤ 4 := by omega
                simp only [isTurnL, l1', l2', decide_true, Bool.true_and]
                by_cases hq : ns.Perm (rngI ns.length)
                · rw [decide_eq_true hq, decide_eq_true (sorted_one (hp.trans hq) hs (rngI_sorted _))]
                · rw [decide_eq_false hq, decide_eq_false (fun z => hq (by rw [z] at hp; exact hp.symm))]
              rw [e2] at hq
              simpa using hq
          · have ha' : xs.all (fun d => betw d 0 (xs.length - 1)) = false := by simpa using ha
            simp only [ha', Bool.not_false, if_true]
            refine defEnds_here ?_
            have e2 : isTurnD (.ftup xs) = false := by
              cases e : intsOf xs with
              | none => simp only [isTurnD, e]
              | some ns =>
                have ex := intsOf_ok e
                subst ex
                simp only [isTurnD, e]
                cases ht : isTurnL ns with
                | false => rfl
                | true =>
                  have hb := turn_bounds ht
                  have := all_of_ints (i := 0) (j := ns.length - 1) (fun n hn => by have := hb n hn; omega)
                  rw [List.length_map] at ha'
                  rw [this] at ha'
                  cases ha'
            rw [e2] at hq
            exact hq
      · have e2 := isTurnD_ftup (xs := xs) (by omega)
        rw [e2] at hq
        simp only [l1, l2, decide_true, decide_false, if_true, Bool.not_false]
        exact defEnds_here hq
    · have e2 := isTurnD_ftup (xs := xs) (by omega)
      rw [e2] at hq
      simp only [l1, decide_false, Bool.false_eq_true, if_false, Bool.not_false, if_true]
      exact defEnds_here hq
  | _ => walk_at "rd"; exact defEnds_here hq

theorem at10 (a : D) : atI [a] 0 = some a := atI_nat (j := 0) rfl
theorem at20 (a b : D) : atI [a, b] 0 = some a := atI_nat (j := 0) rfl
theorem at21 (a b : D) : atI [a, b] 1 = some b := atI_nat (j := 1) rfl
theorem ix10 : ixN 1 0 = some 0 := rfl
theorem itemsD (xs : List Int) (i : Nat) (h : i < xs.length) : atI (xs.map D.int) (i : Int) = some (.int (xs.getD i 0)) := by
  refine atI_nat ?_
  rw [List.getElem?_map, List.getElem?_eq_getElem h, List.getD_eq_getElem?_getD, List.getElem?_eq_getElem h]
  rfl
theorem itemsI (xs : List Int) (i : Int) (h0 : 0 ≤ i) (h : i < xs.length) : atI (xs.map D.int) i = some (.int (xs.getD i.toNat 0)) := by
  have := itemsD xs i.toNat (by omega)
  rwa [Int.toNat_of_nonneg h0] at this
theorem map_eraseIdx (l : List Int) (k : Nat) : (l.map D.int).eraseIdx k = (l.eraseIdx k).map D.int := by
  induction l generalizing k with
  | nil => rfl
  | cons x l ih => cases k with
    | zero => rfl
    | succ k => simp only [List.map_cons, List.eraseIdx_cons_succ, ih]
theorem isTurn_of_perm {many : Nat} (h2 : 2 ≤ many) (h4 : many ≤ 4) {ns : List Int} (h : ns.Perm (rngI many)) : isTurnL ns = true ∧ ns.length = many := by
  have hl : ns.length = many := by have := h.length_eq; rwa [rngI_length] at this
  refine ⟨?_, hl⟩
  unfold isTurnL
  rw [hl]
  simp [h2, h4, h]
theorem rdok_law_next {ds m q qe} (h : sp_law_next ds m q qe) : rd_law_next (fun cls _ m => qe cls m) (defEnds q) (startD N_law_next ds) m := by
  obtain ⟨d, k, e0, a, n, i, e1, ha, e2, i0, i1, hq⟩ := sp2_at h
  clear h
  subst e0 e1 e2
  show rd_law_next _ (defEnds q) [some (.ref a), some (.int i), none] m
  unfold rd_law_next
  walk_at "rd"
  simp only [ha, at10, List.length_cons, List.length_nil, Nat.zero_add, ix10]
  exact ⟨i0, ⟨i0, i1⟩, defEnds_here (hq _ _ (Int.emod_nonneg _ (by omega)) (Int.emod_lt_of_pos _ i0))⟩
theorem state_go {m : Mem} {q : DQ} {qe : Value → Mem → Prop} {ns : List Int} {i : Nat} (hi : i ≤ 1000) (hq : ∀ (n : Int) (a : Addr), m a = none → q (.ref a) (m.set a (.lst [.int n]))) (c : Int) :
    rd_law_state_2 (fun cls _ m => qe cls m) (defEnds q) [some (.rol (ns.map D.int)), some (.int i), some (.int c), none, none, none, none] m := by
  unfold rd_law_state_2
  walk_at "rf"
  refine ⟨by walk_at "sz", fun a1 h1 => ⟨by walk_at "sz", fun a2 h2 => ?_⟩⟩
  have n12 : a1 ≠ a2 := fun e => by subst e; rw [Mem.set_same] at h2; cases h2
  refine ⟨_, _, by rw [Mem.set_ne n12, Mem.set_same], rfl, by walk_at "sz", fun p hp => ?_⟩
  generalize hK : ((m.set a1 _).set a2 _).set p _ = K
  have l1 : m.le K := by rw [← hK]; exact Mem.le_trans (Mem.le_trans (Mem.le_set h1) (Mem.le_set h2)) (Mem.le_set hp)
  have kp : K p = some (.lst ([.int 2147483629, .int 2147483587, .int 2147483579, .int 2147483563, .int 2147483549, .int 2147483543, .int 2147483497, .int 2147483489] ++ [.int 2147483477, .int 2147483423, .int 2147483399, .int 2147483353, .int 2147483323, .int 2147483269, .int 2147483249])) := by rw [← hK]; exact Mem.set_same
  rw [itOf_r kp]
  dsimp only
  refine for_inv (fun items ρ m' => ∃ (ps : List Int) (number : Int) (x4 x5 x6 : Option D), items = ps.map D.int ∧ (∀ x ∈ ps, (0 : Int) < x ∧ x < 2147483648) ∧ m' = K ∧
    ρ = [some (.rol (ns.map D.int)), some (.int i), some (.int c), some (.int number), x4, x5, x6]) (fun _ _ m' hP => ?_) (fun ρ m' hP => ?_) (fun d r ρ m' hP N hN => ?_) _ _ _ ?_
  · obtain ⟨ps, number, x4, x5, x6, ei, hps, rfl, rfl⟩ := hP
    exact kp
  · obtain ⟨ps, number, x4, x5, x6, ei, hps, rfl, rfl⟩ := hP
    walk_at "rf"
    exact ⟨by walk_at "sz", fun a ha => defEnds_le (Mem.set_le l1) (hq _ a (Mem.le_none l1 ha))⟩
  · obtain ⟨ps, number, x4, x5, x6, ei, hps, rfl, rfl⟩ := hP
    cases ps with
    | nil => cases ei
    | cons p0 ps =>
      rw [List.map_cons] at ei
      cases ei
      have hp0 := hps p0 List.mem_cons_self
      walk_at "rf"
      have m1 := Int.emod_nonneg c (show p0 ≠ 0 by omega)
      have m2 := Int.emod_lt_of_pos c hp0.1
      generalize c % p0 = z at m1 m2
      have q1 : CPow (z + 7919 * (i : Int) + 48271) 2 := ⟨by decide, by decide, by omega⟩
      generalize (z + 7919 * (i : Int) + 48271) ^ (2 : Int).toNat * 69621 = y
      have m3 := Int.emod_nonneg y (show p0 ≠ 0 by omega)
      have m4 := Int.emod_lt_of_pos y hp0.1
      exact ⟨hp0.1, cmulL _ (by omega), q1, cmulR _ (by omega), hp0.1, cmulR _ (by omega), ⟨by omega, by omega⟩, cmulL _ (by omega), hp0.1, dn_here (hN _ _ ⟨ps, _, _, _, _, rfl, fun x hx => hps x (List.mem_cons_of_mem _ hx), rfl, rfl⟩)⟩
  · refine ⟨[2147483629, 2147483587, 2147483579, 2147483563, 2147483549, 2147483543, 2147483497, 2147483489, 2147483477, 2147483423, 2147483399, 2147483353, 2147483323, 2147483269, 2147483249], 0, _, _, _, rfl, ?_, rfl, rfl⟩
    decide
theorem state_main {m : Mem} {q : DQ} {qe : Value → Mem → Prop} {ns : List Int} {i : Nat} (hi : i ≤ 1000) (hq : ∀ (n : Int) (a : Addr), m a = none → q (.ref a) (m.set a (.lst [.int n]))) (c : Int) :
    rd_law_state_1 (fun cls _ m => qe cls m) (defEnds q) [some (.rol (ns.map D.int)), some (.int i), some (.int c), none, none, none, none] m := by
  unfold rd_law_state_1
  walk_at "rf"
  refine ⟨cpow18, ?_⟩
  by_cases h1 : (10 : Int) ^ (18 : Int).toNat ≤ c
  · rw [decide_eq_true h1]
    simp only [if_true]
    exact ⟨cpow18, by walk_at "sz", fun a ha => defEnds_here (hq _ a ha)⟩
  · rw [decide_eq_false h1]
    simp only [Bool.false_eq_true, if_false]
    exact state_go (qe := qe) (ns := ns) hi hq c
theorem rdok_law_state {ds m q qe} (h : sp_law_state ds m q qe) : rd_law_state (fun cls _ m => qe cls m) (defEnds q) (startD N_law_state ds) m := by
  obtain ⟨d, k, e0, ns, i, e1, e2, hi, hq⟩ := sp2_at h
  clear h
  subst e0 e1 e2
  show rd_law_state _ (defEnds q) [some (.rol (ns.map D.int)), some (.int i), none, none, none, none, none] m
  unfold rd_law_state
  walk_at "rd"
  refine ⟨nilOk_ints ns, ?_⟩
  cases ns with
  | nil => exact state_main (qe := qe) (ns := []) hi hq 0
  | cons n ns =>
    simp only [List.map_cons, List.isEmpty_cons, Bool.not_false, if_true]
    have hpos : (0 : Int) < (((D.int n :: ns.map D.int).length : Nat) : Int) := by rw [List.length_cons]; omega
    refine ⟨by simpa using hpos, ?_⟩
    have e := itemsI (n :: ns) ((i : Int) % ((D.int n :: ns.map D.int).length : Nat)) (Int.emod_nonneg _ (by omega)) (by have := Int.emod_lt_of_pos (i : Int) hpos; simpa using this)
    rw [List.map_cons] at e
    simp only [List.length_cons, List.length_map] at e ⊢
    rw [e]
    exact state_main (qe := qe) (ns := n :: ns) hi hq (if ((n :: ns).getD (↑i % ((ns.length + 1 : Nat) : Int)).toNat 0) < 0 then -((n :: ns).getD (↑i % ((ns.length + 1 : Nat) : Int)).toNat 0) else ((n :: ns).getD (↑i % ((ns.length + 1 : Nat) : Int)).toNat 0))

/-! ### all turns -/
theorem rdok_is_below {ds m q qe} (h : sp_is_below ds m q qe) : rd_is_below (fun cls _ m => qe cls m) (defEnds q) (startD N_is_below ds) m := by
  obtain ⟨d, u, e0, h1, j, e1, hq⟩ := sp2_at h
  clear h
  subst e0 e1
  show rd_is_below _ (defEnds q) [some d, some (.int j)] m
  unfold kn at h1
  unfold rd_is_below
  cases d with
  | ref a =>
    cases e : m a with
    | none => simp [tyS, e] at h1
    | some o =>
      cases o with
      | lst xs => walk_at "rd"; simp only [e]; exact defEnds_here hq
      | dK kvs => walk_at "rd"; simp only [e]; exact defEnds_here hq
      | dF kvs => walk_at "rd"; simp only [e]; exact defEnds_here hq
      | _ => simp [tyS, e] at h1
  | ty n => simp [tyS] at h1
  | int k =>
    walk_at "rd"
    by_cases e : 0 ≤ k
    · simp only [e, decide_true, if_true]
      refine defEnds_here ?_
      simpa [isBelowD, e] using hq
    · simp only [e, decide_false, Bool.false_eq_true, if_false]
      refine defEnds_here ?_
      simpa [isBelowD, e] using hq
  | _ => walk_at "rd"; exact defEnds_here hq

theorem knT_ints (m : Mem) (ns : List Int) : knT m (.ftup (ns.map D.int)) := by
  show ∀ e ∈ ns.map D.int, kn m e
  intro e he
  obtain ⟨n, _, rfl⟩ := List.mem_map.mp he
  rfl
theorem isTurnD_ints (ns : List Int) : isTurnD (.ftup (ns.map D.int)) = isTurnL ns := by simp only [isTurnD, intsOf_map]
theorem all_below {ns : List Int} {rooms : Nat} (h : ∀ x ∈ ns, 0 ≤ x ∧ x < rooms) : (ns.map D.int).map (fun d => D.bl (isBelowD d rooms)) = (ns.map fun _ => true).map D.bl := by
  rw [List.map_map, List.map_map]
  apply List.map_congr_left
  intro x hx
  have := h x hx
  simp [isBelowD, this]
theorem all_true {α : Type} (ns : List α) : (ns.map fun _ => true).all _root_.id = true := by simp
theorem rdok_is_room {ds m q qe} (h : sp_is_room ds m q qe) : rd_is_room (fun cls _ m => qe cls m) (defEnds q) (startD N_is_room ds) m := by
  obtain ⟨d, a, b, e0, many, rooms, r, e1, e2, e3, ok, hq⟩ := sp3_at h
  clear h
  subst e0 e1 e2 e3
  show rd_is_room _ (defEnds q) [some (roomD r), some (.int many), some (.int rooms), none, none, none] m
  unfold rd_is_room roomD
  walk_at "rd"
  refine ⟨knT_ints m _, ?_⟩
  rw [isTurnD_ints, ok.turn]
  simp only [Bool.not_true, Bool.false_eq_true, if_false, List.length_map, ok.len1, ok.len2, beq_self_eq_true]
  have ht : isTurnL r.1 = true := ok.turn
  have h4 : r.1.length ≤ 4 := by
    simp only [isTurnL, Bool.and_eq_true, decide_eq_true_eq] at ht
    exact ht.1.2
  refine comp_map (fun d => .bl (isBelowD d rooms)) trivial _ [] (fun d hd K hK => ?_) (by rw [List.length_nil, List.length_map, ok.len2, ← ok.len1]; exact sized (by omega)) ?_
  · walk_at "rd"
    obtain ⟨n, _, rfl⟩ := List.mem_map.mp hd
    exact ⟨rfl, _, rfl, hK⟩
  · rw [List.nil_append, all_below ok.rests, boolsOf_map]
    simp only [all_true]
    exact defEnds_here hq
theorem IsMach.pos {many : Nat} {M : Mach} (h : IsMach many M) : ∃ r M', M = r :: M' := by
  cases M with
  | nil => exact absurd h.few (by decide)
  | cons r M' => exact ⟨r, M', rfl⟩
theorem rdok_is_machine {ds m q qe} (h : sp_is_machine ds m q qe) : rd_is_machine (fun cls _ m => qe cls m) (defEnds q) (startD N_is_machine ds) m := by
  obtain ⟨d, e0, many, M, e1, ok, hq⟩ := sp1_at h
  clear h
  subst e0 e1
  show rd_is_machine _ (defEnds q) [some (machD M), none, none] m
  have l1 : (1 : Int) ≤ ((M.map roomD).length : Nat) := by rw [List.length_map]; have := ok.few; omega
  have l2 : ((M.map roomD).length : Int) ≤ 60 := by rw [List.length_map]; have := ok.most; omega
  unfold rd_is_machine machD
  walk_at "rd"
  simp only [l1, l2, decide_true, if_true, Bool.not_true, Bool.false_eq_true, if_false]
  obtain ⟨r, M', rfl⟩ := ok.pos
  have okr := ok.room r List.mem_cons_self
  have e0 : atI ((r :: M').map roomD) 0 = some (roomD r) := atI_nat (j := 0) rfl
  rw [e0]
  unfold roomD
  have e1 : atI [D.ftup (r.1.map D.int), D.tup (r.2.map D.int)] 0 = some (.ftup (r.1.map D.int)) := atI_nat (j := 0) rfl
  simp only [e1]
  walk_at "rd"
  refine ⟨knT_ints m _, ?_⟩
  rw [isTurnD_ints, okr.turn]
  simp only [Bool.not_true, Bool.false_eq_true, if_false]
  refine comp_map (fun _ => .bl true) trivial _ [] (fun d hd K hK => ?_) (by rw [List.length_nil, List.length_map]; have := ok.most; exact sized (by omega)) ?_
  · walk_at "rd"
    simp only [e1, List.length_map]
    obtain ⟨r', hr', rfl⟩ := List.mem_map.mp hd
    have := ok.room r' hr'
    refine ⟨many, (r :: M').length, r', rfl, ?_, ?_, this, hK⟩
    · rw [okr.len1]
    · rfl
  · rw [List.nil_append, List.map_map, show ((fun _ => D.bl true) ∘ fun r : List Int × List Int => D.tup [D.ftup (r.1.map D.int), D.tup (r.2.map D.int)]) = D.bl ∘ (fun _ => true) from rfl, ← List.map_map, boolsOf_map]
    simp only [all_true]
    exact defEnds_here hq
theorem rdok_sure_machine {ds m q qe} (h : sp_sure_machine ds m q qe) : rd_sure_machine (fun cls _ m => qe cls m) (defEnds q) (startD N_sure_machine ds) m := by
  obtain ⟨d, e0, many, M, e1, ok, hq⟩ := sp1_at h
  clear h
  subst e0 e1
  show rd_sure_machine _ (defEnds q) [some (machD M)] m
  unfold rd_sure_machine
  walk_at "rd"
  exact ⟨many, M, rfl, ok, defEnds_here hq⟩
/-! ### numbers for things, walked -/
section
variable {κ : Type} [DecidableEq κ]
def posK (U : List κ) (k : κ) : Nat := U.findIdx fun x => decide (x = k)
def enK (i : Nat) : List κ → List (κ × D)
  | [] => []
  | k :: ks => (k, natD i) :: enK (i + 1) ks
theorem enK_val : ∀ (U : List κ) (i : Nat) (k : κ), valG (enK i U) k = if k ∈ U then some (natD (i + posK U k)) else none
  | [], i, k => by rw [enK, valG_nil, if_neg (by simp)]
  | u :: U, i, k => by
    rw [enK, valG_cons]
    by_cases h : u = k
    · rw [if_pos h, if_pos (by simp [h])]
      unfold posK
      rw [List.findIdx_cons, decide_eq_true h]; rfl
    · rw [if_neg h, enK_val U (i + 1) k]
      have e : posK (u :: U) k = posK U k + 1 := by
        unfold posK
        rw [List.findIdx_cons, decide_eq_false h]; rfl
      rw [e]
      by_cases hm : k ∈ U
      · rw [if_pos hm, if_pos (List.mem_cons_of_mem _ hm), show i + 1 + posK U k = i + (posK U k + 1) by omega]
      · rw [if_neg hm, if_neg (fun z => (List.mem_cons.mp z).elim (fun e => h e.symm) hm)]
theorem enK_len : ∀ (U : List κ) (i : Nat), (enK i U).length = U.length
  | [], _ => rfl
  | _ :: U, i => by rw [enK, List.length_cons, List.length_cons, enK_len U]
theorem enK_snoc : ∀ (U : List κ) (i : Nat) (k : κ), enK i (U ++ [k]) = enK i U ++ [(k, natD (i + U.length))]
  | [], i, k => rfl
  | u :: U, i, k => by
    rw [List.cons_append, enK, enK, enK_snoc U (i + 1) k, List.cons_append, List.length_cons]
    congr 5; omega
theorem posK_lt {U : List κ} {k : κ} (h : k ∈ U) : posK U k < U.length := List.findIdx_lt_length.mpr ⟨k, h, by simp⟩
theorem posK_get {U : List κ} {k : κ} (h : k ∈ U) : U[posK U k]? = some k := by
  have hl := posK_lt h
  rw [List.getElem?_eq_getElem hl]
  have := List.findIdx_getElem (xs := U) (p := fun x => decide (x = k)) (w := hl)
  simp only [decide_eq_true_eq] at this
  exact congrArg some this
theorem posK_app {U V : List κ} {k : κ} (h : k ∈ U) : posK (U ++ V) k = posK U k := by
  unfold posK
  rw [List.findIdx_append, if_pos (List.findIdx_lt_length.mpr ⟨k, h, by simp⟩)]
theorem posK_new {U : List κ} {k : κ} (h : k ∉ U) : posK (U ++ [k]) k = U.length := by
  unfold posK
  rw [List.findIdx_append, if_neg (fun z => h (by obtain ⟨x, hx, e⟩ := List.findIdx_lt_length.mp z; simp only [decide_eq_true_eq] at e; exact e ▸ hx))]
  simp [List.findIdx_cons]
theorem nd_inj {l : List κ} (h : l.Nodup) {i j : Nat} {hi : i < l.length} {hj : j < l.length} (e : l[i] = l[j]) : i = j := by
  have p := List.pairwise_iff_getElem.mp h
  rcases Nat.lt_trichotomy i j with z | z | z
  · exact absurd e (p i j hi hj z)
  · exact z
  · exact absurd e.symm (p j i hj hi z)
theorem num_of {keys U : List κ} (nd : U.Nodup) (hm : ∀ k, k ∈ U ↔ k ∈ keys) : NumOf (fun i j => keys[i]? = keys[j]?) keys.length U.length (keys.map (posK U)) := by
  have g : ∀ i, i < keys.length → ∃ k, keys[i]? = some k ∧ k ∈ U ∧ (keys.map (posK U)).getD i 0 = posK U k := fun i hi => by
    refine ⟨keys[i], List.getElem?_eq_getElem hi, (hm _).mpr (List.getElem_mem _), ?_⟩
    rw [List.getD_eq_getElem?_getD, List.getElem?_map, List.getElem?_eq_getElem hi]; rfl
  refine ⟨List.length_map .., fun i hi => ?_, fun v hv => ?_, fun i j hi hj => ?_⟩
  · obtain ⟨k, _, h2, h3⟩ := g i hi
    rw [h3]; exact posK_lt h2
  · have hk := (hm U[v]).mp (List.getElem_mem hv)
    obtain ⟨i, hi, e⟩ := List.mem_iff_getElem.mp hk
    refine ⟨i, hi, ?_⟩
    obtain ⟨k, h1, h2, h3⟩ := g i hi
    rw [List.getElem?_eq_getElem hi, e] at h1
    cases h1
    rw [h3]
    have := posK_get (List.getElem_mem hv : U[v] ∈ U)
    obtain ⟨hl, q⟩ := List.getElem?_eq_some_iff.mp this
    exact nd_inj nd q
  · obtain ⟨k, h1, h2, h3⟩ := g i hi
    obtain ⟨k', h1', h2', h3'⟩ := g j hj
    rw [h3, h3']
    constructor
    · intro e
      show keys[i]? = keys[j]?
      rw [h1, h1', ← posK_get h2, ← posK_get h2', e]
    · intro e
      have e' : keys[i]? = keys[j]? := e
      rw [h1, h1'] at e'; cases e'; rfl
end
theorem rdok_numbered {ds m q qe} (h : sp_numbered ds m q qe) : rd_numbered (fun cls _ m => qe cls m) (defEnds q) (startD N_numbered ds) m := by
  obtain ⟨d, e0, a, things, keys, e1, ha, hk, hz, hq⟩ := sp1_at h
  clear h
  subst e0 e1
  have hl : things.length = keys.length := by have := congrArg List.length hk; simpa using this
  show rd_numbered _ (defEnds q) [some (.ref a), none, none] m
  unfold rd_numbered dDict0
  walk_at "rf"
  refine .inr fun p hp => ?_
  have np : a ≠ p := Mem.live_ne ha hp
  have ga : ∀ o, (m.set p o) a = some (.lst things) := fun o => by rw [Mem.set_ne np]; exact ha
  rw [itOf_r (ga _)]
  refine comp_inv (fun items acc m' => ∃ (n : Nat) (U : List NestedKey), items = things.drop n ∧ n ≤ things.length ∧ U.Nodup ∧ (∀ k, k ∈ U ↔ k ∈ keys.take n) ∧ acc = ((keys.take n).map (posK U)).map natD ∧ m' = m.set p (.dN (enK 0 U)))
    (fun r acc m' hP => ?_) (fun acc m' hP => ?_) (fun d r acc m' hP N hN => ?_) _ _ _ ?_
  · obtain ⟨_, _, _, _, _, _, _, rfl⟩ := hP; exact ga _
  · obtain ⟨n, U, e, hn, nd, hm, rfl, rfl⟩ := hP
    have : n = things.length := by
      have := congrArg List.length e
      rw [List.length_nil, List.length_drop] at this; omega
    subst this
    rw [hl, List.take_length] at hm ⊢
    intro p' hp'
    obtain ⟨hp1, np'⟩ := Mem.set_none hp'
    refine defEnds_le (Mem.set_le (Mem.le_set hp)) (hq _ U.length p' ?_ hp1)
    rw [hl]
    exact num_of nd hm
  · obtain ⟨n, U, e, hn, nd, hm, rfl, rfl⟩ := hP
    have hlt : n < things.length := by
      have := congrArg List.length e
      rw [List.length_cons, List.length_drop] at this; omega
    rw [List.drop_eq_getElem_cons hlt] at e
    obtain ⟨rfl, rfl⟩ := List.cons.inj e
    have hk1 : keyT things[n] = some (keys[n]'(by omega)) := by
      have := congrArg (·[n]?) hk
      simp only [List.getElem?_map] at this
      rw [List.getElem?_eq_getElem hlt, List.getElem?_eq_getElem (by omega)] at this
      simpa using this
    have ht : keys.take (n + 1) = keys.take n ++ [keys[n]'(by omega)] := by rw [List.take_add_one, List.getElem?_eq_getElem (by omega)]; rfl
    walk_at "rf"
    refine ⟨⟨p, rfl, .inr ⟨_, Mem.set_same⟩⟩, ?_⟩
    rw [lenG_N Mem.set_same, enK_len]
    unfold setdefD
    dsimp only
    rw [Mem.set_same]
    dsimp only
    rw [hk1]
    dsimp only
    rw [enK_val]
    have hac : (keys.take n).length < sizeLine := by
      rw [List.length_take]; exact sized' (by omega)
    by_cases hin : keys[n]'(by omega) ∈ U
    · rw [if_pos hin]
      dsimp only
      refine ⟨hac, hN _ _ ⟨n + 1, U, rfl, hlt, nd, fun k => ?_, ?_, rfl⟩⟩
      · rw [ht, List.mem_append, List.mem_singleton]
        exact ⟨fun z => .inl ((hm k).mp z), fun z => z.elim (hm k).mpr fun z => z ▸ hin⟩
      · rw [ht, List.map_append, List.map_append, Nat.zero_add]; rfl
    · rw [if_neg hin]
      dsimp only
      have hul : U.length ≤ 1000 := by
        have := nd_len nd (ys := keys.take n) fun k hk => (hm k).mp hk
        rw [List.length_take] at this; omega
      refine ⟨by rw [enK_len]; exact sized' (by omega), hac, hN _ _ ⟨n + 1, U ++ [keys[n]'(by omega)], rfl, hlt, ?_, fun k => ?_, ?_, ?_⟩⟩
      · rw [List.nodup_append]
        refine ⟨nd, by simp, fun x hx y hy => ?_⟩
        rw [List.mem_singleton] at hy; subst hy
        exact fun z => hin (z ▸ hx)
      · rw [ht, List.mem_append, List.mem_append, hm k]
      · rw [ht, List.map_append, List.map_append, List.map_cons, List.map_nil, List.map_cons, List.map_nil, posK_new hin]
        congr 1
        congr 1
        refine List.map_congr_left fun k hk => ?_
        exact (posK_app ((hm k).mpr hk)).symm
      · rw [Mem.set_set, putG_new _ (by rw [enK_val, if_neg hin]), enK_snoc, Nat.zero_add]
  · refine ⟨0, [], by simp, Nat.zero_le _, List.nodup_nil, by simp, by simp, rfl⟩
/-- a comprehension over enumerate(..) whose element is a function of place and item -/
theorem comp_mapE {chk : Mem → Prop} {i j : Nat} {te : DTE} {ρ : DEnv} {q : List D → Mem → Prop} (f : Nat → D → D) {m : Mem} (hc : chk m) : ∀ (items acc : List D) (k : Nat),
    (∀ (n : Nat) (d : D), items[n]? = some d → ∀ K : DQ, K (f (k + n) d) m → te ((ρ.set i (some (.int ((k + n : Nat) : Int)))).set j (some d)) m K) → acc.length + items.length ≤ sizeLine → q (acc ++ (items.zipIdx k).map fun p => f p.2 p.1) m →
    compR chk (gTp 2 (gCn (gNm i) (gCn (gNm j) gNl))) dYes te ρ q (enumFrom k items) acc m
  | [], acc, k, _, _, h => by
    rw [List.zipIdx_nil, List.map_nil, List.append_nil] at h
    exact ⟨hc, h⟩
  | d :: r, acc, k, hs, hz, h => by
    refine ⟨hc, rfl, ?_⟩
    show (if true = true then te ((ρ.set i (some (.int ((k : Nat) : Int)))).set j (some d)) m (fun y m4 => acc.length < sizeLine ∧ compR chk _ dYes te ρ q (enumFrom (k + 1) r) (acc ++ [y]) m4) else compR chk (gTp 2 (gCn (gNm i) (gCn (gNm j) gNl))) dYes te ρ q (enumFrom (k + 1) r) acc m)
    rw [if_pos rfl]
    refine hs 0 d rfl _ ⟨by rw [List.length_cons] at hz; omega, comp_mapE f hc r (acc ++ [f k d]) (k + 1) (fun n e he K hK => ?_) (by rw [List.length_append, List.length_singleton]; rw [List.length_cons] at hz; omega) ?_⟩
    · have := hs (n + 1) e (by rw [List.getElem?_cons_succ]; exact he) K
      rw [show k + (n + 1) = k + 1 + n by omega] at this
      exact this hK
    · rw [List.append_assoc]
      rw [List.zipIdx_cons] at h
      exact h

theorem keyT_intsF (ns : List Int) : keyT (.ftup (ns.map D.int)) = some (numK ns) := by
  have e : keyN (.ftup (ns.map D.int)) = some (numK ns) := by rw [keyN, keyNs_ints]; rfl
  show keyD _ = _
  unfold keyD
  rw [e]
  dsimp only
  rw [if_pos (by unfold numK; rw [NestedKey.depth, depth_nums]; decide)]
theorem NumOf.congr {e f : Nat → Nat → Prop} {n c : Nat} {ns : List Nat} (h : NumOf e n c ns) (g : ∀ i j, i < n → j < n → (e i j ↔ f i j)) : NumOf f n c ns :=
  ⟨h.len, h.low, h.all, fun i j hi hj => (h.iff i j hi hj).trans (g i j hi hj)⟩
theorem natD_map (ns : List Nat) : ns.map natD = (ns.map fun n => ((n : Nat) : Int)).map D.int := by rw [List.map_map]; rfl
theorem atI_natD {ns : List Nat} {i : Nat} (h : i < ns.length) : atI (ns.map natD) ((i : Nat) : Int) = some (natD (ns.getD i 0)) := by
  refine atI_nat ?_
  rw [List.getElem?_map, List.getElem?_eq_getElem h, List.getD_eq_getElem?_getD, List.getElem?_eq_getElem h]; rfl
theorem NumOf.max {e : Nat → Nat → Prop} {n c : Nat} {ns : List Nat} (h : NumOf e n c ns) {k : Int} (hk : k ∈ ns.map fun n => ((n : Nat) : Int)) (hm : ∀ y ∈ ns.map fun n => ((n : Nat) : Int), y ≤ k) : k + 1 = (c : Nat) := by
  obtain ⟨v, hv, rfl⟩ := List.mem_map.mp hk
  obtain ⟨i, hi, e⟩ := List.mem_iff_getElem.mp hv
  have h1 := h.low i (by rw [← h.len]; exact hi)
  rw [List.getD_eq_getElem?_getD, List.getElem?_eq_getElem hi, Option.getD_some, e] at h1
  obtain ⟨j, hj, e2⟩ := h.all (c - 1) (by omega)
  have hj' : j < ns.length := by rw [h.len]; exact hj
  have := hm ((ns.getD j 0 : Nat) : Int) (List.mem_map.mpr ⟨_, by rw [List.getD_eq_getElem?_getD, List.getElem?_eq_getElem hj']; exact List.getElem_mem _, rfl⟩)
  rw [e2] at this
  omega
/-! ### machines as plain data -/
section
variable {many : Nat} {M : Mach}
theorem IsMach.at' (ok : IsMach many M) {i : Nat} (hi : i < M.length) : IsRoom many M.length (M.getD i ([], [])) := by
  rw [List.getD_eq_getElem?_getD, List.getElem?_eq_getElem hi]
  exact ok.room _ (List.getElem_mem _)
theorem IsMach.cl (ok : IsMach many M) : Cl many M := by
  refine ⟨fun i hi => ?_, fun i hi x hx => ?_⟩
  · unfold rA; rw [List.length_map]; exact (ok.at' hi).len2
  · unfold rA at hx
    obtain ⟨y, hy, rfl⟩ := List.mem_map.mp hx
    have := (ok.at' hi).rests y hy
    omega
theorem rA_back (ok : IsMach many M) {i : Nat} (hi : i < M.length) : (M.getD i ([], [])).2 = (rA M i).map fun n => ((n : Nat) : Int) := by
  unfold rA
  rw [List.map_map]
  refine (List.map_id _).symm.trans (List.map_congr_left fun x hx => ?_)
  have := (ok.at' hi).rests x hx
  show x = ((x.toNat : Nat) : Int)
  omega
def roomM (M : Mach) (i : Nat) : D := .tup [.ftup ((tA M i).map D.int), .tup ((rA M i).map natD)]
theorem room_is (ok : IsMach many M) {i : Nat} (hi : i < M.length) : (M.map roomD)[i]? = some (roomM M i) := by
  rw [List.getElem?_map, List.getElem?_eq_getElem hi]
  show some (roomD _) = _
  have e : M[i] = M.getD i ([], []) := by rw [List.getD_eq_getElem?_getD, List.getElem?_eq_getElem hi]; rfl
  unfold roomD roomM
  rw [e, natD_map, ← rA_back ok hi]
  rfl
theorem room_atI (ok : IsMach many M) {i : Nat} (hi : i < M.length) : atI (M.map roomD) ((i : Nat) : Int) = some (roomM M i) := atI_nat (room_is ok hi)
end
/-! ### keys of a number and numbers -/
def pairK (n : Nat) (xs : List Nat) : NestedKey := .tup [.num (n : Nat), numK (xs.map fun n => ((n : Nat) : Int))]
theorem keyT_pair (n : Nat) (xs : List Nat) : keyT (.tup [natD n, .tup (xs.map natD)]) = some (pairK n xs) := by
  have e : keyN (.tup [natD n, .tup (xs.map natD)]) = some (pairK n xs) := by
    rw [natD_map]
    simp only [keyN, keyNs, keyNs_ints, Option.map_some]
    rfl
  show keyD _ = _
  unfold keyD
  rw [e]
  dsimp only
  rw [if_pos]
  unfold pairK numK
  simp only [NestedKey.depth, NestedKey.depthAll, depth_nums]
  decide
theorem pairK_inj {n n' : Nat} {xs xs' : List Nat} : pairK n xs = pairK n' xs' ↔ n = n' ∧ xs = xs' := by
  constructor
  · intro h
    unfold pairK at h
    injection h with h
    injection h with h1 h2
    injection h1 with h1
    injection h2 with h2 _
    have := numK_inj h2
    refine ⟨by omega, ?_⟩
    have inj : ∀ (xs xs' : List Nat), (xs.map fun n => ((n : Nat) : Int)) = (xs'.map fun n => ((n : Nat) : Int)) → xs = xs' := fun xs => by
      induction xs with
      | nil => intro ys h; cases ys with
        | nil => rfl
        | cons _ _ => simp at h
      | cons x xs ih => intro ys h; cases ys with
        | nil => simp at h
        | cons y ys =>
          rw [List.map_cons, List.map_cons] at h
          injection h with h1 h2
          rw [ih ys h2, Int.ofNat.inj h1]
    exact inj _ _ this
  · rintro ⟨rfl, rfl⟩; rfl
theorem Eqn.pair {k d : Nat} {M : Mach} (c : Cl k M) {ns : List Nat} {cc : Nat} (h : NumOf (Eqn k M M d) M.length cc ns) {i j : Nat} (hi : i < M.length) (hj : j < M.length) :
    (pairK (ns.getD i 0) ((rA M i).map fun x => ns.getD x 0) = pairK (ns.getD j 0) ((rA M j).map fun x => ns.getD x 0)) ↔ Eqn k M M (d + 1) i j := by
  rw [pairK_inj, h.iff i j hi hj]
  have li := c.len i hi
  have lj := c.len j hj
  have g : ∀ i, i < M.length → ∀ l, l < k → ((rA M i).map fun x => ns.getD x 0)[l]? = some (ns.getD (rg M i l) 0) := fun i hi l hl => by
    rw [List.getElem?_map, List.getElem?_eq_getElem (by rw [c.len i hi]; exact hl)]
    unfold rg
    rw [List.getD_eq_getElem?_getD (l := rA M i), List.getElem?_eq_getElem (by rw [c.len i hi]; exact hl)]
    rfl
  constructor
  · rintro ⟨h1, h2⟩
    refine ⟨h1.tn, fun l hl => (h.iff _ _ (c.rg hi hl) (c.rg hj hl)).mp ?_⟩
    have := congrArg (·[l]?) h2
    simp only [g i hi l hl, g j hj l hl] at this
    exact Option.some.inj this
  · intro h1
    refine ⟨h1.down, List.ext_getElem? fun l => ?_⟩
    by_cases hl : l < k
    · rw [g i hi l hl, g j hj l hl, (h.iff _ _ (c.rg hi hl) (c.rg hj hl)).mpr (h1.2 l hl)]
    · rw [List.getElem?_eq_none (by rw [List.length_map]; omega), List.getElem?_eq_none (by rw [List.length_map]; omega)]
theorem intsOf_natD (ns : List Nat) : intsOf (ns.map natD) = some (ns.map fun n => ((n : Nat) : Int)) := by rw [natD_map]; exact intsOf_map _
def ixOf (ns : List Nat) : D → D
  | .int i => natD (ns.getD i.toNat 0)
  | _ => .non
theorem ixOf_map (ns xs : List Nat) : (xs.map natD).map (ixOf ns) = (xs.map fun x => ns.getD x 0).map natD := by
  rw [List.map_map, List.map_map]
  refine List.map_congr_left fun x _ => ?_
  show natD (ns.getD ((x : Nat) : Int).toNat 0) = natD (ns.getD x 0)
  rw [Int.toNat_natCast]
theorem zip_snd {α : Type} (g : Nat → D) (xs : List α) : (xs.zipIdx 0).map (fun p => g p.2) = (List.range xs.length).map g := by
  rw [List.range_eq_range', ← List.zipIdx_map_snd 0 xs, List.map_map]; rfl
def fstD : D → D
  | .tup [x, _] => x
  | _ => .non
theorem rdok_room_marks {ds m q qe} (h : sp_room_marks ds m q qe) : rd_room_marks (fun cls _ m => qe cls m) (defEnds q) (startD N_room_marks ds) m := by
  obtain ⟨d, e0, many, M, e1, ok, hq⟩ := sp1_at h
  clear h
  subst e0 e1
  have cl := ok.cl
  have few := ok.few
  have most := ok.most
  show rd_room_marks _ (defEnds q) [some (machD M), none, none, none, none, none] m
  unfold rd_room_marks machD
  walk_at "rf"
  refine comp_map fstD trivial _ _ (fun d hd K hK => ?_) (by rw [List.length_map]; exact sized (by simp; omega)) ?_
  · obtain ⟨r, hr, rfl⟩ := List.mem_map.mp hd
    walk_at "rf"
    unfold roomD
    rw [ixD_t (at20 _ _)]
    exact hK
  intro a ha
  refine ⟨a, _, M.map fun r => numK r.1, rfl, Mem.set_same, ?_, by simp; omega, fun ns c p hN hp => ?_⟩
  · rw [List.nil_append, List.map_map, List.map_map, List.map_map]
    exact List.map_congr_left fun r _ => keyT_intsF r.1
  obtain ⟨hp0, npa⟩ := Mem.set_none hp
  have hN0 : NumOf (Eqn many M M 0) M.length c ns := by
    have : ([] ++ (M.map roomD).map fstD).length = M.length := by simp
    rw [this] at hN
    refine hN.congr fun i j hi hj => ?_
    show (M.map fun r => numK r.1)[i]? = (M.map fun r => numK r.1)[j]? ↔ tA M i = tA M j
    rw [List.getElem?_map, List.getElem?_map, List.getElem?_eq_getElem hi, List.getElem?_eq_getElem hj]
    unfold tA
    rw [List.getD_eq_getElem?_getD, List.getD_eq_getElem?_getD, List.getElem?_eq_getElem hi, List.getElem?_eq_getElem hj]
    show some (numK _) = some (numK _) ↔ _
    constructor
    · intro z; exact numK_inj (Option.some.inj z)
    · intro z; exact congrArg (fun y => some (numK y)) z
  clear hN
  unfold rd_room_marks_1
  walk_at "rf"
  unfold rd_room_marks_2
  walk_at "rf"
  refine ⟨fun n ρ m' => ∃ (d known c : Nat) (ns : List Nat) (p : Addr) (x1 x4 x5 : Option D), n = M.length - known ∧ NumOf (Eqn many M M d) M.length c ns ∧ known ≤ M.length ∧ (known = 0 ∨ ∃ d' prev, d = d' + 1 ∧ NumOf (Eqn many M M d') M.length known prev) ∧
    m.le m' ∧ m p = none ∧ m' p = some (.lst (ns.map natD)) ∧ ρ = [some (.tup (M.map roomD)), x1, some (.ref p), some (natD known), x4, x5],
    ⟨_, 0, 0, c, ns, p, _, _, _, rfl, hN0, Nat.zero_le _, .inl rfl, Mem.le_trans (Mem.le_set ha) (Mem.le_set hp), hp0, Mem.set_same, rfl⟩, ?_⟩
  clear hN0 hp npa ha
  rintro n ρ m' ⟨d, known, c, ns, p, x1, x4, x5, rfl, hN, hkn, hpr, hle, hp, hm', rfl⟩
  have hlen := hN.len
  have cle := hN.le
  walk_at "rf"
  show maxD [.ref p] m' _
  unfold maxD
  dsimp only
  rw [itemsL_r hm']
  dsimp only
  rw [intsOf_natD]
  dsimp only
  refine ⟨by rw [List.length_map]; omega, fun k hk hmax => ?_⟩
  have hc := hN.max hk hmax
  show geD (.int k) (natD known) m' _
  walk_at "rf"
  by_cases hge : ((known : Nat) : Int) ≤ k
  · rw [decide_eq_true hge]
    walk_at "rf"
    unfold rd_room_marks_2w
    walk_at "rf"
    show maxD [.ref p] m' _
    unfold maxD
    dsimp only
    rw [itemsL_r hm']
    dsimp only
    rw [intsOf_natD]
    dsimp only
    refine ⟨by rw [List.length_map]; omega, fun k' hk' hmax' => ?_⟩
    have hc' := hN.max hk' hmax'
    show addD (.int k') (.int 1) m' _
    walk_at "rf"
    unfold rd_room_marks_2w1
    walk_at "rf"
    refine comp_mapE (fun n _ => .tup [natD (ns.getD n 0), .tup (((rA M n).map fun x => ns.getD x 0).map natD)]) trivial _ _ _ (fun n d hd K hK => ?_) (by rw [List.length_map]; exact sized (by simp; omega)) ?_
    · have hn : n < M.length := by have := (List.getElem?_eq_some_iff.mp hd).1; simpa using this
      rw [room_is ok hn] at hd
      cases hd
      rw [Nat.zero_add] at hK ⊢
      walk_at "rf"
      rw [ixD_r hm' (atI_natD (by omega))]
      show ixD (roomM M n) (.int 1) m' _
      unfold roomM
      rw [ixD_t (at21 _ _)]
      walk_at "rf"
      refine comp_map (ixOf ns) trivial _ _ (fun d hd K hK => ?_) (by rw [List.length_map, cl.len n hn]; exact sized (by simp; have := ok.four; omega)) ?_
      · obtain ⟨x, hx, rfl⟩ := List.mem_map.mp hd
        walk_at "rf"
        rw [ixD_r hm' (atI_natD (by rw [hlen]; exact cl.low n hn x hx))]
        have : ixOf ns (natD x) = natD (ns.getD x 0) := by show natD (ns.getD ((x : Nat) : Int).toNat 0) = _; rw [Int.toNat_natCast]
        rw [this] at hK
        exact hK
      · rw [List.nil_append, ixOf_map]
        exact ⟨by walk_at "sz", hK⟩
    · rw [List.nil_append, zip_snd (fun n => .tup [natD (ns.getD n 0), .tup (((rA M n).map fun x => ns.getD x 0).map natD)])]
      rw [List.length_map]
      intro a2 ha2
      refine ⟨a2, _, (List.range M.length).map fun n => pairK (ns.getD n 0) ((rA M n).map fun x => ns.getD x 0), rfl, Mem.set_same, ?_, by simp; omega, fun ns2 c2 p2 hN2 hp2 => ?_⟩
      · rw [List.map_map, List.map_map]
        exact List.map_congr_left fun n _ => keyT_pair _ _
      obtain ⟨hp20, np2a⟩ := Mem.set_none hp2
      rw [List.length_map, List.length_range] at hN2
      have hN3 : NumOf (Eqn many M M (d + 1)) M.length c2 ns2 := hN2.congr fun i j hi hj => by
        show ((List.range M.length).map _)[i]? = ((List.range M.length).map _)[j]? ↔ _
        rw [List.getElem?_map, List.getElem?_map, List.getElem?_range hi, List.getElem?_range hj]
        show some (pairK _ _) = some (pairK _ _) ↔ _
        rw [Option.some.injEq]
        exact Eqn.pair cl hN hi hj
      rw [hc']
      refine dn_here ⟨M.length - c, by omega, d + 1, c, c2, ns2, p2, _, _, _, rfl, hN3, cle, .inr ⟨d, ns, rfl, hN⟩, Mem.le_trans hle (Mem.le_trans (Mem.le_set ha2) (Mem.le_set hp2)), Mem.le_none hle hp20, Mem.set_same, rfl⟩
  · rw [decide_eq_false hge]
    walk_at "rf"
    unfold rd_room_marks_3
    walk_at "rf"
    have c1 : 0 < c := Nat.lt_of_le_of_lt (Nat.zero_le _) (hN.low 0 few)
    obtain ⟨d', prev, rfl, hP⟩ := hpr.resolve_left (by omega)
    have same := hP.same hN (fun i j hi hj e => e.down) (by omega)
    have stop := Eqn.stop cl same
    refine defEnds_le (fun b o e => ?_) (hq ns c p (hN.congr fun i j hi hj => ⟨fun e => stop i j hi hj e.down, fun e => e _⟩) hp)
    by_cases z : b = p
    · subst z; rw [Mem.set_same] at e; cases e; exact hm'
    · rw [Mem.set_ne z] at e; exact hle b o e

/-! ### least_from, walked -/
def eB (ns : List Nat) (i j : Nat) : Bool := decide (ns.getD i 0 = ns.getD j 0)
def kB (ns : List Nat) (x : Nat) : Key := .inl ((ns.getD x 0 : Nat) : Int)
theorem eB_tells {many : Nat} {M : Mach} {ns : List Nat} {c : Nat} (h : NumOf (Eqv many M M) M.length c ns) : Tells many M (eB ns) :=
  ⟨fun x => decide_eq_true rfl, fun i j hi hj => by unfold eB; rw [decide_eq_true_eq]; exact h.iff i j hi hj⟩
theorem kB_eq {ns : List Nat} {x y : Nat} : decide (kB ns x = kB ns y) = eB ns x y := by
  unfold kB eB
  by_cases h : ns.getD x 0 = ns.getD y 0
  · rw [decide_eq_true h, decide_eq_true (by rw [h])]
  · rw [decide_eq_false h, decide_eq_false (fun z => h (by injection z with z; omega))]
theorem kB_mem {ns met : List Nat} {to : Nat} : (kB ns to ∈ met.map (kB ns)) ↔ met.any (fun x => eB ns x to) = true := by
  rw [List.mem_map, List.any_eq_true]
  constructor
  · rintro ⟨x, hx, e⟩; exact ⟨x, hx, by rw [← kB_eq]; exact decide_eq_true e⟩
  · rintro ⟨x, hx, e⟩; exact ⟨x, hx, by rw [← kB_eq] at e; exact of_decide_eq_true e⟩
theorem posK_kB (ns met : List Nat) (to : Nat) : posK (met.map (kB ns)) (kB ns to) = idxR (eB ns) met to := by
  unfold posK idxR
  induction met with
  | nil => rfl
  | cons x met ih => rw [List.map_cons, List.findIdx_cons, List.findIdx_cons, ih, kB_eq]
theorem inG_K {a : Addr} {y : D} {m : Mem} {q : DQ} {kvs : List (Key × D)} {k : Key} {neg : Bool} (h : m a = some (.dK kvs)) (e : keyK y = some k) : inG neg y (.ref a) m q = q (.bl (if neg then !(valG kvs k).isSome else (valG kvs k).isSome)) m := by
  unfold inG; rw [getO_K h e]
theorem ixG_K {a : Addr} {y : D} {m : Mem} {q : DQ} {kvs : List (Key × D)} {k : Key} {d : D} (h : m a = some (.dK kvs)) (e : keyK y = some k) (hv : valG kvs k = some d) : ixG (.ref a) y m q = q d m := by
  unfold ixG; rw [getO_K h e, hv]
theorem ixG_L {a : Addr} {i : Int} {m : Mem} {q : DQ} {xs : List D} {d : D} (h : m a = some (.lst xs)) (e : atI xs i = some d) : ixG (.ref a) (.int i) m q = q d m := by
  unfold ixG; rw [getO_L h]; exact ixD_r h e
theorem ixG_t {i : Int} {m : Mem} {q : DQ} {xs : List D} {d : D} (e : atI xs i = some d) : ixG (.tup xs) (.int i) m q = q d m := by
  unfold ixG getO; exact ixD_t e
/-- the memory of a going over -/
def lmem (m : Mem) (p a b : Addr) (ns met : List Nat) : Mem := ((m.set p (.lst (ns.map natD))).set a (.lst (met.map natD))).set b (.dK (enK 0 (met.map (kB ns))))
section
variable {m : Mem} {p a b : Addr}
theorem lmem_p {ns met : List Nat} (nap : a ≠ p) (nbp : b ≠ p) : (lmem m p a b ns met) p = some (.lst (ns.map natD)) := by unfold lmem; rw [Mem.set_ne nbp.symm, Mem.set_ne nap.symm, Mem.set_same]
theorem lmem_a {ns met : List Nat} (nab : a ≠ b) : (lmem m p a b ns met) a = some (.lst (met.map natD)) := by unfold lmem; rw [Mem.set_ne nab, Mem.set_same]
theorem lmem_b {ns met : List Nat} : (lmem m p a b ns met) b = some (.dK (enK 0 (met.map (kB ns)))) := Mem.set_same
theorem lmem_le {ns met : List Nat} (hp : m p = none) (ha : m a = none) (hb : m b = none) : m.le (lmem m p a b ns met) := Mem.le_set_of (Mem.le_set_of (Mem.le_set hp) ha) hb
theorem lmem_add {ns met : List Nat} {to : Nat} (nab : a ≠ b) :
    ((lmem m p a b ns met).set b (.dK (enK 0 (met.map (kB ns)) ++ [(kB ns to, natD met.length)]))).set a (.lst (met.map natD ++ [natD to])) = lmem m p a b ns (met ++ [to]) := by
  unfold lmem
  rw [Mem.set_set, Mem.set_comm nab.symm, Mem.set_set]
  rw [List.map_append, List.map_append, List.map_cons, List.map_nil, List.map_cons, List.map_nil, enK_snoc, List.length_map, Nat.zero_add]
end
theorem getD_nmem {l : List Nat} {i : Nat} (h : i < l.length) : l.getD i 0 ∈ l := by
  rw [List.getD_eq_getElem?_getD, List.getElem?_eq_getElem h]; exact List.getElem_mem _
/-- a comprehension over numbers -/
theorem comp_nat {chk : Mem → Prop} {i : Nat} {te : DTE} {ρ : DEnv} {q : List D → Mem → Prop} (f : Nat → D) {m : Mem} (hc : chk m) : ∀ (xs : List Nat) (acc : List D),
    (∀ x ∈ xs, ∀ K : DQ, K (f x) m → te (ρ.set i (some (natD x))) m K) → acc.length + xs.length ≤ sizeLine → q (acc ++ xs.map f) m → compR chk (gNm i) dYes te ρ q (xs.map natD) acc m
  | [], acc, _, _, h => by
    rw [List.map_nil, List.append_nil] at h
    exact ⟨hc, h⟩
  | x :: r, acc, hs, hz, h => by
    refine ⟨hc, ?_⟩
    show (if true = true then te (ρ.set i (some (natD x))) m (fun y m4 => acc.length < sizeLine ∧ compR chk (gNm i) dYes te ρ q (r.map natD) (acc ++ [y]) m4) else compR chk (gNm i) dYes te ρ q (r.map natD) acc m)
    rw [if_pos rfl]
    refine hs x List.mem_cons_self _ ⟨by rw [List.length_cons] at hz; omega, comp_nat f hc r (acc ++ [f x]) (fun e he => hs e (List.mem_cons_of_mem _ he)) (by rw [List.length_append, List.length_singleton]; rw [List.length_cons] at hz; omega) ?_⟩
    rw [List.append_assoc]
    exact h
theorem rdok_least_from {ds m q qe} (h : sp_least_from ds m q qe) : rd_least_from (fun cls _ m => qe cls m) (defEnds q) (startD N_least_from ds) m := by
  obtain ⟨d, e, e0, many, M, r, e1, e2, hr, ok, hq⟩ := sp2_at h
  clear h
  subst e0 e1 e2
  have cl := ok.cl
  have most := ok.most
  show rd_least_from _ (defEnds q) [some (machD M), some (natD r), none, none, none, none, none, none] m
  unfold rd_least_from
  walk_at "rf"
  refine ⟨many, M, rfl, ok, fun ns c p hN hp => ?_⟩
  have te := eB_tells hN
  have hlen := hN.len
  unfold rd_least_from_1
  walk_at "rf"
  refine ⟨by walk_at "sz", fun a ha => ?_⟩
  obtain ⟨ha0, nap⟩ := Mem.set_none ha
  unfold rd_least_from_2
  walk_at "rf"
  rw [ixG_L (by rw [Mem.set_ne nap.symm]; exact Mem.set_same) (atI_natD (by rw [hlen]; exact hr))]
  show ∀ b, _ → _
  intro b hb
  obtain ⟨hb1, nba⟩ := Mem.set_none hb
  obtain ⟨hb0, nbp⟩ := Mem.set_none hb1
  have nab := nba.symm
  unfold rd_least_from_3
  walk_at "rf"
  unfold rd_least_from_4
  walk_at "rf"
  refine ⟨fun n ρ m' => ∃ (i : Nat) (x6 x7 : Option D), n = 61 - i ∧ (∀ k, k < i → k < (bfsN M (eB ns) r k).length) ∧ m' = lmem m p a b ns (bfsN M (eB ns) r i) ∧ ρ = [some (machD M), some (natD r), some (.ref p), some (.ref a), some (.ref b), some (natD i), x6, x7],
    ⟨_, 0, _, _, rfl, (fun _ h => absurd h (Nat.not_lt_zero _)), rfl, rfl⟩, ?_⟩
  rintro n ρ m' ⟨i, x6, x7, rfl, hk, rfl, rfl⟩
  have mok := bfsN_ok (e := eB ns) cl hr i hk
  have mfew := mok.few te.rf
  walk_at "rf"
  rw [lenG_r (lmem_a nab), List.length_map]
  walk_at "rf"
  by_cases hlt : i < (bfsN M (eB ns) r i).length
  · rw [decide_eq_true (by omega)]
    walk_at "rf"
    have hlow := met_low mok hlt
    unfold rd_least_from_4w
    walk_at "rf"
    rw [ixG_L (lmem_a nab) (atI_natD hlt)]
    unfold machD
    rw [ixG_t (room_atI ok hlow)]
    show ixG (roomM M _) (.int 1) _ _
    unfold roomM
    rw [ixG_t (at21 _ _)]
    walk_at "rf"
    refine for_inv (fun items ρ m' => ∃ (tos met : List Nat) (x6 x7 : Option D), items = tos.map natD ∧ (∀ x ∈ tos, x < M.length) ∧ MetOk (eB ns) M.length met ∧ addAll (eB ns) met tos = bfsN M (eB ns) r (i + 1) ∧ m' = lmem m p a b ns met ∧
      ρ = [some (.tup (M.map roomD)), some (natD r), some (.ref p), some (.ref a), some (.ref b), some (natD i), x6, x7]) (fun _ _ _ _ => trivial) (fun ρ m' hP => ?_) (fun d rr ρ m' hP N hNx => ?_) _ _ _ ?_
    · obtain ⟨tos, met, x6, x7, e, _, _, hA, rfl, rfl⟩ := hP
      cases tos with
      | cons _ _ => cases e
      | nil =>
        have hA' : met = bfsN M (eB ns) r (i + 1) := hA
        subst hA'
        unfold rd_least_from_4w1
        walk_at "rf"
        refine dn_here ⟨61 - (i + 1), by omega, i + 1, _, _, rfl, fun k hk' => ?_, rfl, rfl⟩
        rcases Nat.lt_or_eq_of_le (Nat.le_of_lt_succ hk') with z | z
        · exact hk k z
        · rw [z]; exact hlt
    · obtain ⟨tos, met, x6, x7, e, hlow', mok', hA, rfl, rfl⟩ := hP
      cases tos with
      | nil => cases e
      | cons to tos =>
        rw [List.map_cons] at e
        obtain ⟨rfl, rfl⟩ := List.cons.inj e
        have hto := hlow' to List.mem_cons_self
        have hA' : addAll (eB ns) (addR (eB ns) met to) tos = bfsN M (eB ns) r (i + 1) := hA
        have few' := mok'.few te.rf
        walk_at "rf"
        unfold rd_least_from_4w0f
        walk_at "rf"
        rw [ixG_L (lmem_p nap nbp) (atI_natD (by rw [hlen]; exact hto)), inG_K lmem_b (show keyK _ = some (kB ns to) from rfl), enK_val]
        by_cases hin : met.any (fun x => eB ns x to) = true
        · rw [if_pos (kB_mem.mpr hin)]
          walk_at "rf"
          have : addR (eB ns) met to = met := if_pos hin
          rw [this] at hA'
          exact dn_here (hNx _ _ ⟨tos, met, _, _, rfl, fun x hx => hlow' x (List.mem_cons_of_mem _ hx), mok', hA', rfl, rfl⟩)
        · rw [if_neg (fun z => hin (kB_mem.mp z))]
          walk_at "rf"
          have e2 : addR (eB ns) met to = met ++ [to] := if_neg hin
          have mok2 := addR_ok mok' hto
          rw [e2] at hA' mok2
          unfold rd_least_from_4w0f0t
          walk_at "rf"
          rw [lenG_r (lmem_a nab), ixG_L (lmem_p nap nbp) (atI_natD (by rw [hlen]; exact hto)), setG_K lmem_b (show keyK _ = some (kB ns to) from rfl)]
          refine ⟨by rw [enK_len, List.length_map]; exact sized' (by omega), ?_⟩
          rw [putG_new _ (by rw [enK_val, if_neg (fun z => hin (kB_mem.mp z))]), List.length_map]
          unfold rd_least_from_4w0f0t1
          walk_at "rf"
          have g : ((lmem m p a b ns met).set b (.dK (enK 0 (met.map (kB ns)) ++ [(kB ns to, natD met.length)]))) a = some (.lst (met.map natD)) := by rw [Mem.set_ne nab]; exact lmem_a nab
          refine ⟨⟨a, _, rfl, g⟩, ?_⟩
          rw [appendD_r g]
          refine ⟨by rw [List.length_map]; exact sized' (by omega), ?_⟩
          rw [lmem_add nab]
          exact dn_here (hNx _ _ ⟨tos, met ++ [to], _, _, rfl, fun x hx => hlow' x (List.mem_cons_of_mem _ hx), mok2, hA', rfl, rfl⟩)
    · exact ⟨_, _, _, _, rfl, fun x hx => cl.low _ hlow x hx, mok, rfl, rfl, rfl⟩
  · rw [decide_eq_false (by omega)]
    walk_at "rf"
    have him : IsMet M (eB ns) r (bfsN M (eB ns) r i) := by
      refine ⟨i, rfl, ?_, hk⟩
      rcases Nat.lt_or_ge 0 i with z | z
      · have h1 := hk (i - 1) (by omega)
        obtain ⟨t, ht⟩ := bfsN_pre (M := M) (e := eB ns) (r := r) (show i - 1 ≤ i by omega)
        have := congrArg List.length ht
        rw [List.length_append] at this
        omega
      · have : i = 0 := by omega
        subst this
        exact absurd (show 0 < (bfsN M (eB ns) r 0).length from Nat.one_pos) hlt
    unfold rd_least_from_5
    walk_at "rf"
    rw [itOf_r (lmem_a nab)]
    have cls : ∀ x ∈ bfsN M (eB ns) r i, ∀ to ∈ rA M x, (bfsN M (eB ns) r i).any (fun y => eB ns y to) = true := fun x hx to hto => by
      obtain ⟨j, hj, e⟩ := List.mem_iff_getElem.mp hx
      refine him.closed te hj ?_
      rw [List.getD_eq_getElem?_getD, List.getElem?_eq_getElem hj, Option.getD_some, e]
      exact hto
    refine comp_nat (fun x => .tup [.ftup ((tA M x).map D.int), .tup ((rA M x).map fun to => natD (idxR (eB ns) (bfsN M (eB ns) r i) to))]) (lmem_a nab) _ _ (fun x hx K hK => ?_) (by exact sized (by simp; omega)) ?_
    · have hxl := mok.low x hx
      walk_at "rf"
      unfold machD
      rw [ixG_t (room_atI ok hxl)]
      show ixG (roomM M _) (.int 0) _ _
      conv => unfold roomM
      rw [ixG_t (at20 _ _), ixG_t (room_atI ok hxl)]
      show ixG (roomM M _) (.int 1) _ _
      conv => unfold roomM
      rw [ixG_t (at21 _ _)]
      walk_at "rf"
      refine comp_nat (fun to => natD (idxR (eB ns) (bfsN M (eB ns) r i) to)) trivial _ _ (fun to hto K hK => ?_) (by rw [cl.len x hxl]; exact sized (by simp; have := ok.four; omega)) ?_
      · have htl := cl.low x hxl to hto
        walk_at "rf"
        rw [ixG_L (lmem_p nap nbp) (atI_natD (by rw [hlen]; exact htl)), ixG_K lmem_b (show keyK _ = some (kB ns to) from rfl) (by rw [enK_val, if_pos (kB_mem.mpr (cls x hx to hto))])]
        rw [Nat.zero_add, posK_kB]
        exact hK
      · exact ⟨by walk_at "sz", hK⟩
    · refine defEnds_le (lmem_le hp ha0 hb0) ?_
      have := hq (leastL M (eB ns) (bfsN M (eB ns) r i)) ⟨⟨_, _, te, him, rfl⟩⟩
      unfold machD leastL at this
      rw [List.map_map] at this
      rw [List.nil_append]
      have e : ((bfsN M (eB ns) r i).map fun x => D.tup [.ftup ((tA M x).map D.int), .tup ((rA M x).map fun to => natD (idxR (eB ns) (bfsN M (eB ns) r i) to))]) = (bfsN M (eB ns) r i).map (roomD ∘ fun x => (tA M x, (rA M x).map fun to => ((idxR (eB ns) (bfsN M (eB ns) r i) to : Nat) : Int))) := by
        refine List.map_congr_left fun x _ => ?_
        show _ = roomD _
        unfold roomD
        dsimp only
        rw [List.map_map]; rfl
      rw [e]
      exact this
theorem rdok_least {ds m q qe} (h : sp_least ds m q qe) : rd_least (fun cls _ m => qe cls m) (defEnds q) (startD N_least ds) m := by
  obtain ⟨d, e0, many, M, e1, ok, hq⟩ := sp1_at h
  clear h
  subst e0 e1
  show rd_least _ (defEnds q) [some (machD M)] m
  unfold rd_least
  walk_at "rf"
  exact ⟨many, M, rfl, ok, many, M, 0, rfl, rfl, by have := ok.few; omega, ok, fun L hL => defEnds_here (hq L hL)⟩

theorem LeastOf.mach {many : Nat} {M L : Mach} {r : Nat} (ok : IsMach many M) (hr : r < M.length) (h : LeastOf many M r L) : IsMach many L := by
  have cl := ok.cl
  have g := h.good cl hr
  have le := h.le cl hr
  refine ⟨g.few, by have := ok.most; omega, ok.two, ok.four, fun x hx => ?_⟩
  obtain ⟨e, met, t, im, hL⟩ := h.ex
  obtain ⟨i, hi, ex⟩ := List.mem_iff_getElem.mp hx
  have hmet : i < met.length := by rw [hL, leastL_len] at hi; exact hi
  have mok := im.ok cl hr
  have hlow := met_low mok hmet
  have ei : L[i] = (tA M (met.getD i 0), (rA M (met.getD i 0)).map fun to => ((idxR e met to : Nat) : Int)) := by
    have : L[i]? = some (tA M (met.getD i 0), (rA M (met.getD i 0)).map fun to => ((idxR e met to : Nat) : Int)) := by
      rw [hL]
      unfold leastL
      rw [List.getElem?_map, List.getElem?_eq_getElem hmet, List.getD_eq_getElem?_getD, List.getElem?_eq_getElem hmet]
      rfl
    rw [List.getElem?_eq_getElem hi] at this
    exact Option.some.inj this
  have rk := ok.at' hlow
  rw [← ex, ei]
  refine ⟨rk.turn, rk.len1, ?_, fun y hy => ?_⟩
  · rw [List.length_map]; exact cl.len _ hlow
  · obtain ⟨to, hto, rfl⟩ := List.mem_map.mp hy
    have := idx_lt (im.closed t hmet hto)
    rw [hL, leastL_len]
    omega
/-! ### a going over by some likeness that parts no more than need be -/
structure Sound (k : Nat) (M : Mach) (e : Nat → Nat → Bool) : Prop where
  rf : ∀ x, e x x = true
  imp : ∀ i j, i < M.length → j < M.length → e i j = true → Eqv k M M i j
theorem bfs_closed {M : Mach} {e : Nat → Nat → Bool} {r n : Nat} (rf : ∀ x, e x x = true) (h2 : ∀ k, k < n → k < (bfsN M e r k).length) {i : Nat} (hin : i < n) : (bfsN M e r n).getD i 0 = (bfsN M e r i).getD i 0 ∧ ∀ to ∈ rA M ((bfsN M e r n).getD i 0), (bfsN M e r (i + 1)).any (fun x => e x to) = true := by
  have hi' := h2 i hin
  have hg : (bfsN M e r n).getD i 0 = (bfsN M e r i).getD i 0 := by
    obtain ⟨u, hu⟩ := bfsN_pre (M := M) (e := e) (r := r) (Nat.le_of_lt hin)
    rw [← hu, List.getD_eq_getElem?_getD, List.getD_eq_getElem?_getD, List.getElem?_append_left hi']
  refine ⟨hg, fun to hto => ?_⟩
  rw [hg] at hto
  exact addAll_has rf hto
theorem IsMet.closed' {M : Mach} {e : Nat → Nat → Bool} {r : Nat} {met : List Nat} (rf : ∀ x, e x x = true) (h : IsMet M e r met) {i : Nat} (hi : i < met.length) {to : Nat} (hto : to ∈ rA M (met.getD i 0)) : met.any (fun x => e x to) = true := by
  obtain ⟨n, rfl, h1, h2⟩ := h
  have hin : i < n := by omega
  exact any_pre (bfsN_pre (Nat.succ_le_of_lt hin)) ((bfs_closed rf h2 hin).2 to hto)
theorem leastL_eqv' {k : Nat} {M : Mach} {e : Nat → Nat → Bool} {r : Nat} {met : List Nat} (c : Cl k M) (t : Sound k M e) (hr : r < M.length) (h : IsMet M e r met) {i x : Nat} (hi : i < met.length) (hx : x < M.length) (ex : Eqv k M M (met.getD i 0) x) : Eqv k (leastL M e met) M i x := by
  have ok := h.ok c hr
  refine Eqv.co (P := fun i x => i < met.length ∧ x < M.length ∧ Eqv k M M (met.getD i 0) x) (fun i x ⟨hi, hx, ex⟩ => ⟨(leastL_t hi).trans ex.tn, fun l hl => ?_⟩) ⟨hi, hx, ex⟩
  have hm := met_low ok hi
  have cl := h.closed' t.rf hi (rg_mem c hm hl)
  have cr := c.rg hm hl
  rw [leastL_rg c ok hi hl]
  refine ⟨idx_lt cl, c.rg hx hl, ?_⟩
  have := t.imp _ _ (met_low ok (idx_lt cl)) cr (idx_is cl)
  exact this.trans (ex.go hl)
theorem leastL_mach {many : Nat} {M : Mach} {e : Nat → Nat → Bool} {r : Nat} {met : List Nat} (ok : IsMach many M) (rf : ∀ x, e x x = true) (hr : r < M.length) (im : IsMet M e r met) : IsMach many (leastL M e met) := by
  have cl := ok.cl
  have mok := im.ok cl hr
  have few := mok.few rf
  refine ⟨?_, by rw [leastL_len]; have := ok.most; omega, ok.two, ok.four, fun x hx => ?_⟩
  · obtain ⟨t, ht⟩ := im.first
    rw [leastL_len, ht]; simp
  obtain ⟨i, hi, ex⟩ := List.mem_iff_getElem.mp hx
  have hmet : i < met.length := by rw [leastL_len] at hi; exact hi
  have hlow := met_low mok hmet
  have ei : (leastL M e met)[i] = (tA M (met.getD i 0), (rA M (met.getD i 0)).map fun to => ((idxR e met to : Nat) : Int)) := by
    have : (leastL M e met)[i]? = some (tA M (met.getD i 0), (rA M (met.getD i 0)).map fun to => ((idxR e met to : Nat) : Int)) := by
      unfold leastL
      rw [List.getElem?_map, List.getElem?_eq_getElem hmet, List.getD_eq_getElem?_getD, List.getElem?_eq_getElem hmet]
      rfl
    rw [List.getElem?_eq_getElem hi] at this
    exact Option.some.inj this
  have rk := ok.at' hlow
  rw [← ex, ei]
  refine ⟨rk.turn, rk.len1, ?_, fun y hy => ?_⟩
  · rw [List.length_map]; exact cl.len _ hlow
  · obtain ⟨to, hto, rfl⟩ := List.mem_map.mp hy
    have := idx_lt (im.closed' rf hmet hto)
    rw [leastL_len]
    omega
theorem eqB_sound (k : Nat) (M : Mach) : Sound k M eqB := ⟨fun x => decide_eq_true rfl, fun i j _ _ h => by rw [of_decide_eq_true h]; exact Eqv.refl _⟩
theorem exists_met {k : Nat} {M : Mach} {e : Nat → Nat → Bool} {r : Nat} (c : Cl k M) (rf : ∀ x, e x x = true) (hr : r < M.length) : ∃ met, IsMet M e r met := by
  have key : ∀ n, (∀ j, j < n → j < (bfsN M e r j).length) → (∃ met, IsMet M e r met) ∨ (∀ j, j < n + 1 → j < (bfsN M e r j).length) := fun n h => by
    by_cases z : n < (bfsN M e r n).length
    · right
      intro j hj
      rcases Nat.lt_or_eq_of_le (Nat.le_of_lt_succ hj) with y | y
      · exact h j y
      · rw [y]; exact z
    · left
      refine ⟨_, n, rfl, ?_, h⟩
      have : n ≤ (bfsN M e r n).length := by
        rcases Nat.eq_zero_or_pos n with y | y
        · omega
        · have h1 := h (n - 1) (by omega)
          obtain ⟨t, ht⟩ := bfsN_pre (M := M) (e := e) (r := r) (show n - 1 ≤ n by omega)
          have := congrArg List.length ht
          rw [List.length_append] at this
          omega
      omega
  have all : ∀ n, (∃ met, IsMet M e r met) ∨ (∀ j, j < n → j < (bfsN M e r j).length) := fun n => by
    induction n with
    | zero => right; intro j hj; omega
    | succ n ih =>
      rcases ih with ih | ih
      · exact .inl ih
      · exact key n ih
  rcases all (M.length + 1) with h | h
  · exact h
  · exfalso
    have h1 := h M.length (by omega)
    have := (bfsN_ok (e := e) c hr M.length fun j hj => h j (by omega)).few rf
    omega

/-! ### least machines, as functions -/
section
variable {k : Nat} {M N : Mach} {r s : Nat}
theorem exists_tells (k : Nat) (M : Mach) : ∃ e, Tells k M e := by
  classical
  exact ⟨fun i j => decide (Eqv k M M i j), fun x => decide_eq_true (Eqv.refl x), fun i j _ _ => decide_eq_true_iff⟩
theorem exists_least (c : Cl k M) (hr : r < M.length) : ∃ L, LeastOf k M r L := by
  obtain ⟨e, t⟩ := exists_tells k M
  obtain ⟨met, im⟩ := exists_met c t.rf hr
  exact ⟨_, ⟨e, met, t, im, rfl⟩⟩
theorem lea_spec (c : Cl k M) (hr : r < M.length) : LeastOf k M r (lea k M r) := by
  unfold lea
  rw [dif_pos (exists_least c hr)]
  exact Classical.choose_spec (exists_least c hr)
theorem lea_uniq {L : Mach} (c : Cl k M) (hr : r < M.length) (h : LeastOf k M r L) : L = lea k M r := h.same c c (lea_spec c hr) ⟨hr, hr, Eqv.refl _⟩
theorem lea_eqv (c : Cl k M) (hr : r < M.length) : Eqv k (lea k M r) M 0 r := (lea_spec c hr).eqv c hr
theorem lea_same (c : Cl k M) (d : Cl k N) (hr : r < M.length) (hs : s < N.length) (h : Eqv k M N r s) : lea k M r = lea k N s := (lea_spec c hr).same c d (lea_spec d hs) ⟨hr, hs, h⟩
theorem lea_mach (ok : IsMach k M) (hr : r < M.length) : IsMach k (lea k M r) := (lea_spec ok.cl hr).mach ok hr
theorem lea_good (c : Cl k M) (hr : r < M.length) : GoodL k (lea k M r) := (lea_spec c hr).good c hr
theorem lea_le (c : Cl k M) (hr : r < M.length) : (lea k M r).length ≤ M.length := (lea_spec c hr).le c hr
theorem lea_self (c : Cl k M) (hr : r < M.length) : lea k (lea k M r) 0 = lea k M r :=
  lea_same (lea_good c hr).cl c (lea_good c hr).few hr (lea_eqv c hr)
end
/-! ### come to along letters -/
section
variable {k : Nat} {Fs Gs Os W U Ms : List Mach} {L N M : Mach}
theorem Led.mono (h : ∀ L ∈ Fs, Led k Gs L) (l : Led k Fs L) : Led k Gs L := by
  induction l with
  | base z => exact h _ z
  | step _ z ih => exact ih.step z
theorem Led.mem (h : ∀ L ∈ Fs, L ∈ Gs) (l : Led k Fs L) : Led k Gs L := l.mono fun L z => .base (h L z)
theorem Led.closed (h : ∀ L ∈ Fs, L ∈ Os) (c : ∀ L ∈ Os, ∀ N ∈ behM k L, N ∈ Os) (l : Led k Fs L) : L ∈ Os := by
  induction l with
  | base z => exact h _ z
  | step _ z ih => exact c _ ih _ z
/-- going over, half way -/
structure Dfs (k : Nat) (Fs Os W : List Mach) : Prop where
  nd : Os.Nodup
  so : ∀ L ∈ Os, Led k Fs L
  sw : ∀ L ∈ W, Led k Fs L
  fs : ∀ L ∈ Fs, L ∈ Os ∨ L ∈ W
  cl : ∀ L ∈ Os, ∀ N ∈ behM k L, N ∈ Os ∨ N ∈ W
theorem Dfs.start : Dfs k Fs [] Fs := ⟨List.nodup_nil, (fun _ h => nomatch h), fun _ h => .base h, fun _ h => .inr h, (fun _ h => nomatch h)⟩
theorem Dfs.none : Dfs k [] [] [] := Dfs.start
theorem Dfs.skip (h : Dfs k Fs Os (W ++ [L])) (hL : L ∈ Os) : Dfs k Fs Os W := by
  have key : ∀ N, N ∈ Os ∨ N ∈ W ++ [L] → N ∈ Os ∨ N ∈ W := fun N z => z.elim .inl fun z => (List.mem_append.mp z).elim .inr fun z => by rw [List.mem_singleton.mp z]; exact .inl hL
  exact ⟨h.nd, h.so, fun N z => h.sw N (List.mem_append_left _ z), fun N z => key N (h.fs N z), fun N z N' z' => key N' (h.cl N z N' z')⟩
theorem Dfs.add (h : Dfs k Fs Os (W ++ [L])) (hL : L ∉ Os) : Dfs k Fs (Os ++ [L]) (W ++ behM k L) := by
  have lL : Led k Fs L := h.sw L (by simp)
  have key : ∀ N, N ∈ Os ∨ N ∈ W ++ [L] → N ∈ Os ++ [L] ∨ N ∈ W ++ behM k L := fun N z => z.elim (fun z => .inl (List.mem_append_left _ z)) fun z => (List.mem_append.mp z).elim (fun z => .inr (List.mem_append_left _ z)) fun z => .inl (List.mem_append_right _ z)
  refine ⟨?_, fun N z => ?_, fun N z => ?_, fun N z => key N (h.fs N z), fun N z N' z' => ?_⟩
  · rw [List.nodup_append]
    refine ⟨h.nd, by simp, fun x hx y hy => ?_⟩
    rw [List.mem_singleton] at hy; subst hy
    exact fun z => hL (z ▸ hx)
  · rcases List.mem_append.mp z with z | z
    · exact h.so N z
    · rw [List.mem_singleton.mp z]; exact lL
  · rcases List.mem_append.mp z with z | z
    · exact h.sw N (List.mem_append_left _ z)
    · exact lL.step z
  · rcases List.mem_append.mp z with z | z
    · exact key N' (h.cl N z N' z')
    · rw [List.mem_singleton.mp z] at z'
      exact .inr (List.mem_append_right _ z')
theorem Dfs.done (h : Dfs k Fs Os []) (L : Mach) : L ∈ Os ↔ Led k Fs L :=
  ⟨h.so L, Led.closed (fun L z => (h.fs L z).resolve_right (by simp)) fun L z N z' => (h.cl L z N z').resolve_right (by simp)⟩
theorem Dfs.more (h : Dfs k Fs Os []) (L : Mach) : Dfs k (Fs ++ [L]) Os [L] :=
  ⟨h.nd, fun N z => (h.so N z).mem fun _ z => List.mem_append_left _ z, fun N z => .base (List.mem_append_right _ z), fun N z => (List.mem_append.mp z).elim (fun z => .inl ((h.fs N z).resolve_right (by simp))) .inr, fun N z N' z' => .inl ((h.cl N z N' z').resolve_right (by simp))⟩
theorem Dfs.few (h : Dfs k Fs Os W) (hu : ∀ L, Led k Fs L → L ∈ U) : Os.length ≤ U.length := nd_len h.nd fun L z => hu L (h.so L z)
theorem Dfs.lt (h : Dfs k Fs Os (W ++ [L])) (hL : L ∉ Os) (hu : ∀ L, Led k Fs L → L ∈ U) : Os.length + 1 ≤ U.length := by
  have := (h.add hL).few hu
  rw [List.length_append] at this
  exact this
/-! ### least ones -/
theorem IsLea.of (ok : IsMach k M) {r : Nat} (hr : r < M.length) : IsLea k (lea k M r) := ⟨lea_mach ok hr, lea_good ok.cl hr, lea_self ok.cl hr⟩
theorem IsLea.few (h : IsLea k L) : 0 < L.length := h.good.few
theorem beh_r (h : IsLea k L) (hN : N ∈ behM k L) : ∃ r, r ∈ rA L 0 ∧ r < L.length ∧ N = lea k L r := by
  obtain ⟨r, hr, e⟩ := List.mem_map.mp hN
  exact ⟨r, hr, h.mach.cl.low 0 h.few r hr, e.symm⟩
theorem IsLea.beh (h : IsLea k L) (hN : N ∈ behM k L) : IsLea k N := by
  obtain ⟨r, _, hr, rfl⟩ := beh_r h hN
  exact .of h.mach hr
theorem beh_len (h : IsLea k L) : (behM k L).length = k := by
  unfold behM; rw [List.length_map]; exact h.mach.cl.len 0 h.few
theorem Led.isLea (h : ∀ L ∈ Fs, IsLea k L) (l : Led k Fs L) : IsLea k L := by
  induction l with
  | base z => exact h _ z
  | step _ z ih => exact ih.beh z
theorem leasts_lea (h : ∀ M ∈ Ms, IsMach k M) : ∀ L ∈ leasts k Ms, IsLea k L := fun L z => by
  obtain ⟨M, hM, rfl⟩ := List.mem_map.mp z
  exact .of (h M hM) (h M hM).few
theorem MsOk.lea (h : MsOk k Ms U) (l : Led k (leasts k Ms) L) : IsLea k L := l.isLea (leasts_lea h.ok)
theorem leasts_self (h : ∀ L ∈ Ms, IsLea k L) : leasts k Ms = Ms := by
  unfold leasts
  refine (List.map_congr_left fun L z => ?_).trans (List.map_id Ms)
  exact (h L z).self
/-- the machines begun at rooms of one are few -/
def allL (k : Nat) (Ms : List Mach) : List Mach := Ms.flatMap fun M => (List.range M.length).map (L2.Lh.lea k M)
theorem led_all (h : ∀ M ∈ Ms, IsMach k M) (l : Led k (leasts k Ms) L) : ∃ M ∈ Ms, ∃ r, r < M.length ∧ L = L2.Lh.lea k M r := by
  induction l with
  | base z =>
    obtain ⟨M, hM, rfl⟩ := List.mem_map.mp z
    exact ⟨M, hM, 0, (h M hM).few, rfl⟩
  | @step L N l z ih =>
    have hl : IsLea k L := l.isLea (leasts_lea h)
    obtain ⟨M, hM, r, hr, rfl⟩ := ih
    have ok := h M hM
    obtain ⟨s, hs, hs', rfl⟩ := beh_r hl z
    obtain ⟨i, hi, e⟩ := List.mem_iff_getElem.mp hs
    have hk : i < k := by rw [← hl.mach.cl.len 0 hl.few]; exact hi
    have es : s = rg (L2.Lh.lea k M r) 0 i := by
      unfold rg; rw [List.getD_eq_getElem?_getD, List.getElem?_eq_getElem hi, e]; rfl
    refine ⟨M, hM, rg M r i, ok.cl.rg hr hk, ?_⟩
    rw [es]
    exact lea_same hl.mach.cl ok.cl (by rw [← es]; exact hs') (ok.cl.rg hr hk) ((lea_eqv ok.cl hr).go hk)
theorem led_in (h : ∀ M ∈ Ms, IsMach k M) (l : Led k (leasts k Ms) L) : L ∈ allL k Ms := by
  obtain ⟨M, hM, r, hr, rfl⟩ := led_all h l
  exact List.mem_flatMap.mpr ⟨M, hM, List.mem_map.mpr ⟨r, List.mem_range.mpr hr, rfl⟩⟩
theorem allL_len {b : Nat} : ∀ {Ms : List Mach}, (∀ M ∈ Ms, M.length ≤ b) → (allL k Ms).length ≤ b * Ms.length
  | [], _ => by simp [allL]
  | M :: Ms, h => by
    have ih := allL_len (Ms := Ms) fun M z => h M (List.mem_cons_of_mem _ z)
    have := h M (List.mem_cons_self ..)
    show (List.flatMap _ (M :: Ms)).length ≤ _
    rw [List.flatMap_cons, List.length_append, List.length_map, List.length_range, List.length_cons, Nat.mul_add]
    have e : (List.flatMap (fun M => (List.range M.length).map (L2.Lh.lea k M)) Ms).length = (allL k Ms).length := rfl
    omega
/-- the rooms come to and the machines come to are the same -/
inductive Come (k : Nat) (M : Mach) : Nat → Prop
  | base : Come k M 0
  | step {r l : Nat} : Come k M r → l < k → Come k M (rg M r l)
theorem Come.lt (ok : IsMach k M) {r : Nat} (h : Come k M r) : r < M.length := by
  induction h with
  | base => exact ok.few
  | step _ hl ih => exact ok.cl.rg ih hl
theorem beh_get (h : IsLea k L) {l : Nat} (hl : l < k) : L2.Lh.lea k L (rg L 0 l) ∈ behM k L := List.mem_map.mpr ⟨_, rg_mem h.mach.cl h.few hl, rfl⟩
theorem Come.led (ok : IsMach k M) {r : Nat} (h : Come k M r) (hF : L2.Lh.lea k M 0 ∈ Fs) : Led k Fs (L2.Lh.lea k M r) := by
  induction h with
  | base => exact .base hF
  | @step r l h hl ih =>
    have hr := h.lt ok
    have il := IsLea.of ok hr
    have := beh_get il hl
    rw [lea_same il.mach.cl ok.cl (il.mach.cl.rg il.few hl) (ok.cl.rg hr hl) ((lea_eqv ok.cl hr).go hl)] at this
    exact ih.step this
theorem led_come (h : ∀ M ∈ Ms, IsMach k M) (l : Led k (leasts k Ms) L) : ∃ M ∈ Ms, ∃ r, Come k M r ∧ L = L2.Lh.lea k M r := by
  induction l with
  | base z =>
    obtain ⟨M, hM, rfl⟩ := List.mem_map.mp z
    exact ⟨M, hM, 0, .base, rfl⟩
  | @step L N l z ih =>
    have hl : IsLea k L := l.isLea (leasts_lea h)
    obtain ⟨M, hM, r, hr, rfl⟩ := ih
    have ok := h M hM
    obtain ⟨s, hs, hs', rfl⟩ := beh_r hl z
    obtain ⟨i, hi, e⟩ := List.mem_iff_getElem.mp hs
    have hk : i < k := by rw [← hl.mach.cl.len 0 hl.few]; exact hi
    have es : s = rg (L2.Lh.lea k M r) 0 i := by
      unfold rg; rw [List.getD_eq_getElem?_getD, List.getElem?_eq_getElem hi, e]; rfl
    refine ⟨M, hM, rg M r i, hr.step hk, ?_⟩
    rw [es]
    exact lea_same hl.mach.cl ok.cl (by rw [← es]; exact hs') (ok.cl.rg (hr.lt ok) hk) ((lea_eqv ok.cl (hr.lt ok)).go hk)
/-! ### those that come again -/
theorem Due.led (h : Due k Ms L) : Led k (leasts k Ms) L := by
  obtain ⟨h, hh, l⟩ := h
  exact l.mono fun N z => by rw [List.mem_singleton.mp z]; exact hh.1
theorem Due.step (h : Due k Ms L) (hN : N ∈ behM k L) : Due k Ms N := let ⟨h, hh, l⟩ := h; ⟨h, hh, l.step hN⟩
theorem Home.due (h : Home k Ms L) : Due k Ms L := ⟨L, h, .base (List.mem_singleton.mpr rfl)⟩
/-- asked again of what was told: the same -/
theorem due_again {Ds : List Mach} (ok : ∀ M ∈ Ms, IsMach k M) (hD : ∀ L, L ∈ Ds ↔ Due k Ms L) (L : Mach) : Due k Ds L ↔ Due k Ms L := by
  have es : leasts k Ds = Ds := leasts_self fun L z => ((hD L).mp z).led.isLea (leasts_lea ok)
  have cl : ∀ {N}, Led k Ds N → Due k Ms N := fun l => (hD _).mp (l.closed (fun _ z => z) fun L z N z' => (hD N).mpr (((hD L).mp z).step z'))
  constructor
  · rintro ⟨h, hh, l⟩
    rw [Home, es] at hh
    have hd := cl hh.1
    exact cl (l.mono fun N z => by rw [List.mem_singleton.mp z]; exact .base ((hD h).mpr hd))
  · rintro ⟨h, hh, l⟩
    refine ⟨h, ⟨?_, hh.2⟩, l⟩
    rw [es]
    exact .base ((hD h).mpr (Home.due hh))
/-- there is one -/
theorem home_exists (h : MsOk k Ms U) (hne : Ms ≠ []) : ∃ L, Home k Ms L := by
  obtain ⟨M, Ms', rfl⟩ := List.exists_cons_of_ne_nil hne
  let f : Nat → Mach := fun n => Nat.rec (L2.Lh.lea k M 0) (fun _ L => L2.Lh.lea k L (rg L 0 0)) n
  have k0 : 0 < k := by have := h.two; omega
  have hf : ∀ n, Led k (leasts k (M :: Ms')) (f n) := fun n => by
    induction n with
    | zero => exact .base (List.mem_cons_self ..)
    | succ n ih => exact ih.step (beh_get (h.lea ih) k0)
  have hs : ∀ n, f (n + 1) ∈ behM k (f n) := fun n => beh_get (h.lea (hf n)) k0
  have hl : ∀ i d, Led k (behM k (f i)) (f (i + d + 1)) := fun i d => by
    induction d with
    | zero => exact .base (hs i)
    | succ d ih => exact ih.step (hs (i + d + 1))
  refine Classical.byContradiction fun hn => ?_
  have nd : ((List.range (U.length + 1)).map f).Nodup := by
    rw [List.Nodup, List.pairwise_map]
    refine List.pairwise_lt_range.imp (S := fun i j => f i ≠ f j) fun {i j} hij (e : f i = f j) => hn ⟨f i, hf i, by
      have := hl i (j - i - 1)
      rw [show i + (j - i - 1) + 1 = j by omega, ← e] at this
      exact this⟩
  have := nd_len nd (ys := U) fun L z => by
    obtain ⟨n, _, rfl⟩ := List.mem_map.mp z
    exact h.u _ (hf n)
  rw [List.length_map, List.length_range] at this
  omega
/-! ### in order -/
theorem toks_pre {x y : PyData} (hal : PySem.W.alike x y = true) (e : PySem.W.keyToks x = PySem.W.keyToks y) : PyData.eqv x y = true := by
  cases z : PyData.eqv x y with
  | true => rfl
  | false =>
    have := (PySem.W.toks_eqv x y hal).2 z [] [.inl 0]
    rw [e, PySem.W.lex_pre, PyProof.Rows.lex_irrefl] at this
    cases this
end

/-! ### reprs of equal things -/
def pyT (r : List Int) : PyData := .tuple (r.map PyData.int)
/-! ### lists of tuples of ints as data -/
theorem lay_tups : ∀ R : List (List Int), PyData.canLayAll0 (R.map pyT) = true ∧ PyData.depthAll (R.map pyT) ≤ 1
  | [] => by simp [PyData.canLayAll0, PyData.depthAll]
  | r :: R => by
    obtain ⟨h1, h2⟩ := lay_tups R
    have h := shaped_tupInts r
    have hl := SeqAt.canLay_of_shaped h
    refine ⟨?_, ?_⟩
    · rw [List.map_cons]
      show PyData.canLayAll0 (pyT r :: R.map pyT) = true
      unfold pyT at *
      simp only [PyData.canLayAll0, Bool.and_eq_true]
      exact ⟨hl, h1⟩
    · rw [List.map_cons]
      show PyData.depthAll (pyT r :: R.map pyT) ≤ 1
      have : (pyT r).depth ≤ 1 := by unfold pyT; simp [PyData.depth, depth_ints]
      simp only [PyData.depthAll]
      omega
theorem shaped_tups (R : List (List Int)) : SeqAt.shaped (.list (R.map pyT)) = true := by
  obtain ⟨h1, h2⟩ := lay_tups R
  unfold SeqAt.shaped
  simp only [PyData.canLay0, PyData.depth, Bool.and_eq_true, decide_eq_true_eq]
  exact ⟨h1, by have := h2; grind⟩
theorem eqv_pyT (a b : List Int) : PyData.eqv (pyT a) (pyT b) = decide (a = b) := eqvAll_ints a b
/-! ### machines as data -/
def pyR (r : List Int × List Int) : PyData := .tuple [pyT r.1, pyT r.2]
theorem eqv_pyR (r s : List Int × List Int) : PyData.eqv (pyR r) (pyR s) = decide (r = s) := by
  show PyData.eqvAll [pyT r.1, pyT r.2] [pyT s.1, pyT s.2] = _
  simp only [PyData.eqvAll, eqv_pyT, Bool.and_true]
  obtain ⟨a, b⟩ := r
  obtain ⟨c, d⟩ := s
  by_cases h1 : a = c <;> by_cases h2 : b = d <;> simp [h1, h2]
theorem eqvAll_mach : ∀ M N : Mach, PyData.eqvAll (M.map pyR) (N.map pyR) = decide (M = N)
  | [], [] => by simp [PyData.eqvAll]
  | [], _ :: _ => by simp [PyData.eqvAll]
  | _ :: _, [] => by simp [PyData.eqvAll]
  | r :: R, s :: S => by
    rw [List.map_cons, List.map_cons]
    simp only [PyData.eqvAll, eqv_pyR, eqvAll_mach R S]
    by_cases h : r = s
    · by_cases h2 : R = S <;> simp [h, h2]
    · simp [h]
theorem lay_mach : ∀ M : Mach, PyData.canLayAll0 (M.map pyR) = true ∧ PyData.depthAll (M.map pyR) ≤ 2
  | [] => by simp [PyData.canLayAll0, PyData.depthAll]
  | r :: R => by
    obtain ⟨h1, h2⟩ := lay_mach R
    simp only [List.map_cons]
    unfold pyR pyT at *
    simp only [PyData.canLayAll0, PyData.canLay0, canLay_ints, PyData.depthAll, PyData.depth, depth_ints, h1]
    exact ⟨rfl, by omega⟩
theorem pyWs_mach (f : Addr → Option PyData) : ∀ M : Mach, pyWs f (M.map roomD) = some (M.map pyR)
  | [] => rfl
  | r :: R => by
    simp only [List.map_cons, pyWs, pyWs_mach f R]
    unfold roomD
    simp only [pyW, pyWs, pyWs_ints, Option.map_some]
    rfl
theorem shaped_mach (M : Mach) : SeqAt.shaped (.tuple (M.map pyR)) = true := by
  obtain ⟨h1, h2⟩ := lay_mach M
  unfold SeqAt.shaped
  simp only [PyData.canLay0, PyData.depth, Bool.and_eq_true, decide_eq_true_eq]
  exact ⟨h1, by have := h2; grind⟩
theorem pyD_mach (m : Mem) (M : Mach) : pyD m (machD M) = some (.tuple (M.map pyR)) := by
  show (pyWs _ (M.map roomD)).map PyData.tuple = _
  rw [pyWs_mach]; rfl
/-! ### lists of machines, tables, as data -/
def pyMa (M : Mach) : PyData := .tuple (M.map pyR)
theorem eqv_pyMa (M N : Mach) : PyData.eqv (pyMa M) (pyMa N) = decide (M = N) := by
  unfold pyMa
  rw [PyData.eqv]; exact eqvAll_mach M N
theorem eqvAll_machs : ∀ ms : List Mach, PyData.eqvAll (ms.map pyMa) (ms.map pyMa) = true
  | [] => by simp [PyData.eqvAll]
  | M :: ms => by
    rw [List.map_cons]
    simp only [PyData.eqvAll, eqv_pyMa, eqvAll_machs ms]
    simp
theorem lay_machs : ∀ ms : List Mach, PyData.canLayAll0 (ms.map pyMa) = true ∧ PyData.depthAll (ms.map pyMa) ≤ 3
  | [] => by simp [PyData.canLayAll0, PyData.depthAll]
  | M :: ms => by
    obtain ⟨h1, h2⟩ := lay_machs ms
    obtain ⟨g1, g2⟩ := lay_mach M
    simp only [List.map_cons]
    unfold pyMa at *
    simp only [PyData.canLayAll0, PyData.canLay0, PyData.depthAll, PyData.depth, h1, g1]
    exact ⟨rfl, by omega⟩
theorem shaped_machs (ms : List Mach) : SeqAt.shaped (.list (ms.map pyMa)) = true := by
  obtain ⟨h1, h2⟩ := lay_machs ms
  unfold SeqAt.shaped
  simp only [PyData.canLay0, PyData.depth, Bool.and_eq_true, decide_eq_true_eq]
  exact ⟨h1, by have := h2; grind⟩
theorem pyWs_machs (f : Addr → Option PyData) : ∀ ms : List Mach, pyWs f (ms.map machD) = some (ms.map pyMa)
  | [] => rfl
  | M :: ms => by
    simp only [List.map_cons, pyWs, pyWs_machs f ms]
    unfold machD pyMa
    simp only [pyW, pyWs_mach, Option.map_some]
theorem pyD_refMachs {m : Mem} {a : Addr} {ms : List Mach} (h : m a = some (.lst (ms.map machD))) : pyD m (.ref a) = some (.list (ms.map pyMa)) := by
  show pyA m 3 a = _
  unfold pyA
  rw [h]
  show (pyWs (pyA m 2) (ms.map machD)).map PyData.list = _
  rw [pyWs_machs]
  rfl
theorem neD_machs {m : Mem} {a b : Addr} {ms : List Mach} {q : DQ} (h : m a = some (.lst (ms.map machD))) (h' : m b = some (.lst (ms.map machD))) (hq : q (.bl false) m) : neD (.ref a) (.ref b) m q := by
  unfold neD
  dsimp only
  rw [pyD_refMachs h, pyD_refMachs h']
  refine ⟨shaped_machs _, shaped_machs _, ?_⟩
  have e1 : PyData.eqv (.list (ms.map pyMa)) (.list (ms.map pyMa)) = true := by rw [PyData.eqv]; exact eqvAll_machs ms
  rw [e1]
  exact hq

/-! ### machines as keys -/
def keyR (r : List Int × List Int) : NestedKey := .tup [numK r.1, numK r.2]
def keyM (M : Mach) : NestedKey := .tup (M.map keyR)
theorem keyN_ints (ns : List Int) : keyN (.tup (ns.map D.int)) = some (numK ns) ∧ keyN (.ftup (ns.map D.int)) = some (numK ns) := by
  constructor <;> (rw [keyN, keyNs_ints]; rfl)
theorem keyN_room (r : List Int × List Int) : keyN (roomD r) = some (keyR r) := by
  unfold roomD keyR
  rw [keyN, keyNs, keyNs, keyNs, (keyN_ints r.1).2, (keyN_ints r.2).1]
  rfl
theorem keyNs_mach : ∀ M : Mach, keyNs (M.map roomD) = some (M.map keyR)
  | [] => rfl
  | r :: M => by rw [List.map_cons, keyNs, keyN_room, keyNs_mach M]; rfl
theorem depth_room (r : List Int × List Int) : (keyR r).depth ≤ 2 := by
  unfold keyR
  unfold numK
  simp only [NestedKey.depth, NestedKey.depthAll, depth_nums]
  omega
theorem depth_rooms : ∀ M : Mach, NestedKey.depthAll (M.map keyR) ≤ 2
  | [] => by simp [NestedKey.depthAll]
  | r :: M => by
    have h1 := depth_room r
    have h2 := depth_rooms M
    rw [List.map_cons, NestedKey.depthAll]
    omega
theorem keyT_mach (M : Mach) : keyT (machD M) = some (keyM M) := by
  have e : keyN (.tup (M.map roomD)) = some (keyM M) := by rw [keyN, keyNs_mach]; rfl
  show keyD (.tup (M.map roomD)) = _
  unfold keyD
  rw [e]
  dsimp only
  rw [if_pos (by unfold keyM; rw [NestedKey.depth]; have := depth_rooms M; omega)]
theorem keyR_inj {r s : List Int × List Int} (h : keyR r = keyR s) : r = s := by
  unfold keyR at h
  injection h with h
  injection h with h1 h2
  injection h2 with h2 _
  exact Prod.ext (numK_inj h1) (numK_inj h2)
theorem keyM_inj : ∀ {M N : Mach}, keyM M = keyM N → M = N := by
  have key : ∀ {M N : Mach}, M.map keyR = N.map keyR → M = N := by
    intro M
    induction M with
    | nil => intro N h; cases N with | nil => rfl | cons _ _ => cases h
    | cons r M ih =>
      intro N h
      cases N with
      | nil => cases h
      | cons s N =>
        rw [List.map_cons, List.map_cons] at h
        injection h with h1 h2
        rw [keyR_inj h1, ih h2]
  intro M N h
  unfold keyM at h
  injection h with h
  exact key h
/-! ### dicts of machines -/
section
variable {k : Nat} {Ps : List (Mach × Addr)} {Os : List Mach} {L : Mach} {m : Mem} {p a : Addr}
theorem keyE_mach (M : Mach) : (keyN (machD M)).getD .none = keyM M := by rw [show keyN (machD M) = some (keyM M) from (keyD_of (y := .tup (M.map roomD)) (keyT_mach M)).1]; rfl
theorem val_arr : ∀ {Ps : List (Mach × Addr)}, (L ∉ Ps.map Prod.fst → valG (kvT (arrD Ps)) (keyM L) = none) ∧ (∀ a, (Ps.map Prod.fst).Nodup → (L, a) ∈ Ps → valG (kvT (arrD Ps)) (keyM L) = some (.ref a))
  | [] => ⟨fun _ => valG_nil .., fun _ _ h => nomatch h⟩
  | x :: Ps => by
    have ih := val_arr (Ps := Ps)
    have e : kvT (arrD (x :: Ps)) = (keyM x.1, D.ref x.2) :: kvT (arrD Ps) := by
      unfold kvT arrD
      rw [List.map_cons, List.map_cons, keyE_mach]
    rw [e]
    refine ⟨fun h => ?_, fun a nd h => ?_⟩
    · rw [valG_cons, if_neg (fun z => h (by rw [← keyM_inj z]; simp))]
      exact ih.1 fun z => h (by rw [List.map_cons]; exact List.mem_cons_of_mem _ z)
    · rw [valG_cons]
      rw [List.map_cons, List.nodup_cons] at nd
      rcases List.mem_cons.mp h with rfl | h
      · rw [if_pos rfl]
      · rw [if_neg (fun z => nd.1 (by rw [keyM_inj z]; exact List.mem_map.mpr ⟨_, h, rfl⟩))]
        exact ih.2 a nd.2 h
theorem val_found : ∀ {Os : List Mach}, valG (kvT (foundD Os)) (keyM L) = if L ∈ Os then some (.bl true) else none
  | [] => by rw [if_neg (by simp)]; exact valG_nil ..
  | x :: Os => by
    have ih := val_found (Os := Os)
    have e : kvT (foundD (x :: Os)) = (keyM x, D.bl true) :: kvT (foundD Os) := by
      unfold kvT foundD
      rw [List.map_cons, List.map_cons, keyE_mach]
    rw [e, valG_cons]
    by_cases h : x = L
    · subst h; rw [if_pos rfl, if_pos (by simp)]
    · rw [if_neg (fun z => h (keyM_inj z)), ih]
      by_cases h2 : L ∈ Os
      · rw [if_pos h2, if_pos (List.mem_cons_of_mem _ h2)]
      · rw [if_neg h2, if_neg (fun z => (List.mem_cons.mp z).elim (fun z => h z.symm) h2)]
theorem arr_mem (h : L ∈ Ps.map Prod.fst) : ∃ a, (L, a) ∈ Ps := by
  obtain ⟨⟨x, a⟩, hx, rfl⟩ := List.mem_map.mp h
  exact ⟨a, hx⟩
theorem inG_T {neg : Bool} {q : DQ} {kds : List (D × D)} {y : D} {k : NestedKey} (h : m a = some (.dT kds)) (e : keyT y = some k) : inG neg y (.ref a) m q = q (.bl (if neg then !(valG (kvT kds) k).isSome else (valG (kvT kds) k).isSome)) m := by
  unfold inG; rw [getO_T h e]
theorem in_arr {neg : Bool} {q : DQ} (h : m p = some (.dT (arrD Ps))) (nd : (Ps.map Prod.fst).Nodup) (hq : q (.bl (if neg then !decide (L ∈ Ps.map Prod.fst) else decide (L ∈ Ps.map Prod.fst))) m) : inG neg (machD L) (.ref p) m q := by
  rw [inG_T h (keyT_mach L)]
  by_cases z : L ∈ Ps.map Prod.fst
  · obtain ⟨a, ha⟩ := arr_mem z
    rw [val_arr.2 a nd ha]
    rw [decide_eq_true z] at hq
    exact hq
  · rw [val_arr.1 z]
    rw [decide_eq_false z] at hq
    exact hq
theorem in_found {neg : Bool} {q : DQ} (h : m p = some (.dT (foundD Os))) (hq : q (.bl (if neg then !decide (L ∈ Os) else decide (L ∈ Os))) m) : inG neg (machD L) (.ref p) m q := by
  rw [inG_T h (keyT_mach L), val_found]
  by_cases z : L ∈ Os
  · rw [if_pos z]; rw [decide_eq_true z] at hq; exact hq
  · rw [if_neg z]; rw [decide_eq_false z] at hq; exact hq
theorem ArrV.get {q : DQ} (h : ArrV k m p Ps) (ha : (L, a) ∈ Ps) (hq : q (.ref a) m) : ixG (.ref p) (machD L) m q := by
  have e := val_arr.2 a h.nd ha
  unfold ixG
  rcases h.at_ with z | ⟨es, ep, z⟩
  · rw [getO_T z (keyT_mach L), e]; exact hq
  · rw [getO_R z (keyT_mach L), e]; exact hq
theorem ArrV.le {m' : Mem} (h : ArrV k m p Ps) (l : m.le m') : ArrV k m' p Ps := ⟨h.at_.imp (l _ _) fun ⟨es, ep, z⟩ => ⟨es, ep, l _ _ z⟩, fun x hx => l _ _ (h.val x hx), h.nd, h.few⟩
theorem set_arr {q : Mem → Prop} (h : m p = some (.dT (arrD Ps))) (few : Ps.length ≤ 1000) (nin : L ∉ Ps.map Prod.fst) (hq : q (m.set p (.dT (arrD (Ps ++ [(L, a)]))))) : setG (.ref p) (machD L) (.ref a) m q := by
  rw [setG_T h (keyT_mach L)]
  refine ⟨by rw [List.length_map]; exact sized' (by omega), val_arr.1 nin, ?_⟩
  rw [show arrD (Ps ++ [(L, a)]) = arrD Ps ++ [(machD L, .ref a)] by unfold arrD; rw [List.map_append]; rfl] at hq
  exact hq
theorem set_found {q : Mem → Prop} (h : m p = some (.dT (foundD Os))) (few : Os.length ≤ 1000) (nin : L ∉ Os) (hq : q (m.set p (.dT (foundD (Os ++ [L]))))) : setG (.ref p) (machD L) (.bl true) m q := by
  rw [setG_T h (keyT_mach L)]
  refine ⟨by rw [List.length_map]; exact sized' (by omega), by rw [val_found, if_neg nin], ?_⟩
  rw [show foundD (Os ++ [L]) = foundD Os ++ [(machD L, .bl true)] by unfold foundD; rw [List.map_append]; rfl] at hq
  exact hq
theorem pop_machs {q : DQ} {w : Addr} {W : List Mach} (h : m w = some (.lst ((W ++ [L]).map machD))) (hq : q (machD L) (m.set w (.lst (W.map machD)))) : popD (.ref w) [] m q := by
  unfold popD
  refine ⟨_, machD L, h, ?_, ?_⟩
  · rw [List.map_append, List.length_append, List.length_map]
    simp
  · rw [List.map_append, List.map_cons, List.map_nil, List.dropLast_concat]
    exact hq
theorem ext_machs {q : DQ} {w c : Addr} {W V : List Mach} (h : m w = some (.lst (W.map machD))) (h' : m c = some (.lst (V.map machD))) (hz : W.length + V.length ≤ 10000) (hq : q .non (m.set w (.lst ((W ++ V).map machD)))) : extendD (.ref w) [.ref c] m q := by
  unfold extendD
  refine ⟨_, _, h, h', by rw [List.length_map, List.length_map]; exact sized (by omega), ?_⟩
  rw [← List.map_append]
  exact hq
theorem last_of {α : Type} {xs : List α} (h : xs ≠ []) : ∃ W L, xs = W ++ [L] := ⟨xs.dropLast, xs.getLast h, (List.dropLast_concat_getLast h).symm⟩
end
/-! ### in order -/
section
variable {k : Nat} {Os Ds Ms : List Mach} {L M N : Mach}
theorem alike_ints : ∀ xs ys : List Int, PySem.W.alikeAll (xs.map PyData.int) (ys.map PyData.int) = true
  | [], _ => by simp [PySem.W.alikeAll]
  | _ :: _, [] => by simp [PySem.W.alikeAll]
  | x :: xs, y :: ys => by simp [PySem.W.alikeAll, PySem.W.alike, alike_ints xs ys]
theorem alike_rooms : ∀ M N : Mach, PySem.W.alikeAll (M.map fun r => PyData.tuple [.tuple (r.1.map PyData.int), .tuple (r.2.map PyData.int)]) (N.map fun r => PyData.tuple [.tuple (r.1.map PyData.int), .tuple (r.2.map PyData.int)]) = true
  | [], _ => by simp [PySem.W.alikeAll]
  | _ :: _, [] => by simp [PySem.W.alikeAll]
  | x :: xs, y :: ys => by
    have := alike_rooms xs ys
    simp [PySem.W.alikeAll, PySem.W.alike, alike_ints, this]
theorem alike_sortK (L N : Mach) : PySem.W.alike (sortK L) (sortK N) = true := by
  have := alike_rooms L N
  unfold sortK pyMa'
  simp [PySem.W.alikeAll, PySem.W.alike, this]
theorem pyMa_eq (M : Mach) : pyMa' M = pyMa M := rfl
theorem eqv_sortK : PyData.eqv (sortK L) (sortK N) = true → L = N := by
  intro h
  unfold sortK at h
  rw [PyData.eqv] at h
  simp only [PyData.eqvAll, Bool.and_eq_true, pyMa_eq, eqv_pyMa, decide_eq_true_eq] at h
  exact h.2.1
theorem leM_def (a b : Mach) : leM a b = !PyProof.Rows.lexLt PyProof.Rows.itemOrd (PySem.W.keyToks (sortK b)) (PySem.W.keyToks (sortK a)) := rfl
theorem leM_anti (h : leM L N = true) (g : leM N L = true) : L = N := by
  rw [leM_def, Bool.not_eq_true'] at h g
  exact eqv_sortK (toks_pre (alike_sortK _ _) (PyProof.Rows.lex_total _ _ g h))
theorem leM_total (a b : Mach) : (leM a b || leM b a) = true := by
  rw [leM_def, leM_def]
  cases h : PyProof.Rows.lexLt PyProof.Rows.itemOrd (PySem.W.keyToks (sortK b)) (PySem.W.keyToks (sortK a)) with
  | false => rfl
  | true =>
    cases g : PyProof.Rows.lexLt PyProof.Rows.itemOrd (PySem.W.keyToks (sortK a)) (PySem.W.keyToks (sortK b)) with
    | false => rfl
    | true =>
      have := PyProof.Rows.lex_trans _ _ _ h g
      rw [PyProof.Rows.lex_irrefl] at this
      cases this
theorem leM_trans (a b c : Mach) (h : leM a b = true) (g : leM b c = true) : leM a c = true := by
  rw [leM_def, Bool.not_eq_true'] at h g ⊢
  cases z : PyProof.Rows.lexLt PyProof.Rows.itemOrd (PySem.W.keyToks (sortK c)) (PySem.W.keyToks (sortK a)) with
  | false => rfl
  | true =>
    rcases PyProof.Rows.lex_negTrans _ (PySem.W.keyToks (sortK b)) _ z with w | w
    · rw [g] at w; cases w
    · rw [h] at w; cases w
theorem sort_uniq (n1 : Os.Nodup) (n2 : Ds.Nodup) (h : ∀ L, L ∈ Os ↔ L ∈ Ds) : Os.mergeSort leM = Ds.mergeSort leM := by
  have p : Os.Perm Ds := (List.perm_ext_iff_of_nodup n1 n2).mpr h
  refine List.Perm.eq_of_pairwise (le := fun a b => leM a b = true) (fun a b _ _ => leM_anti) (List.pairwise_mergeSort leM_trans leM_total _) (List.pairwise_mergeSort leM_trans leM_total _) ?_
  exact (List.mergeSort_perm _ _).trans (p.trans (List.mergeSort_perm _ _).symm)
theorem dueL_of (nd : Os.Nodup) (h : ∀ L, L ∈ Os ↔ Due k Ms L) : dueL k Ms = Os.mergeSort leM := by
  have ex : ∃ Os : List Mach, Os.Nodup ∧ ∀ L, L ∈ Os ↔ Due k Ms L := ⟨Os, nd, h⟩
  unfold dueL
  rw [dif_pos ex]
  obtain ⟨g1, g2⟩ := Classical.choose_spec ex
  exact sort_uniq g1 nd fun L => (g2 L).trans (h L).symm
theorem dueL_mem (nd : Os.Nodup) (h : ∀ L, L ∈ Os ↔ Due k Ms L) (L : Mach) : L ∈ dueL k Ms ↔ Due k Ms L := by
  rw [dueL_of nd h, List.mem_mergeSort]; exact h L
/-- sorted by such a key -/
theorem srt_machs (f : Mach → D) : srtD (Os.map f) (Os.map sortK) = (Os.mergeSort leM).map f := by
  unfold srtD
  rw [List.zip_map']
  have := List.map_mergeSort (r := leM) (s := PySem.W.dataLe false (Prod.snd : D × PyData → PyData)) (f := fun a => (f a, sortK a)) (l := Os) fun a _ b _ => rfl
  rw [← this, List.map_map]
  rfl
theorem pyYs_int (fa : Addr → Option PyData) : ∀ ns : List Int, pyYs fa (ns.map D.int) = some (ns.map PyData.int)
  | [] => by simp [pyYs]
  | n :: ns => by simp [pyYs, pyY, pyYs_int fa ns]
theorem pyY_room (fa : Addr → Option PyData) : ∀ M : Mach, pyYs fa (M.map roomD) = some (M.map fun r => PyData.tuple [.tuple (r.1.map PyData.int), .tuple (r.2.map PyData.int)])
  | [] => by simp [pyYs]
  | r :: M => by
    have ih := pyY_room fa M
    simp [pyYs, pyY, roomD, pyYs_int, ih]
theorem pyYs_machs (fa : Addr → Option PyData) : ∀ Os : List Mach, pyYs fa (Os.map fun L => .tup [natD L.length, machD L]) = some (Os.map sortK)
  | [] => by simp [pyYs]
  | L :: Os => by
    have ih := pyYs_machs fa Os
    have e1 : pyY fa (machD L) = some (pyMa' L) := by unfold machD pyMa'; rw [pyY, pyY_room]; rfl
    simp [pyYs, pyY, e1, ih, sortK]
theorem depth_ints' : ∀ ns : List Int, PyData.depthAll (ns.map PyData.int) ≤ 1
  | [] => by simp [PyData.depthAll]
  | n :: ns => by have := depth_ints' ns; simp [PyData.depthAll, PyData.depth]; omega
theorem depth_sortK (L : Mach) : (sortK L).depth ≤ 50 := by
  obtain ⟨_, h⟩ := lay_mach L
  have e : sortK L = .tuple [.int (L.length : Nat), .tuple (L.map pyR)] := rfl
  rw [e]
  simp only [PyData.depth, PyData.depthAll]
  grind
theorem sortK_all : PySem.W.AllAlike (Os.map sortK) := fun d hd d' hd' => by
  obtain ⟨L, _, rfl⟩ := List.mem_map.mp hd
  obtain ⟨N, _, rfl⟩ := List.mem_map.mp hd'
  exact alike_sortK L N
theorem sortK_able : PySem.W.Sortable (Os.map sortK) := .inl fun d hd => by
  obtain ⟨L, _, rfl⟩ := List.mem_map.mp hd
  exact ⟨_, _, rfl⟩
theorem sortK_deep : ∀ p ∈ Os.map sortK, p.depth ≤ 50 := fun d hd => by
  obtain ⟨L, _, rfl⟩ := List.mem_map.mp hd
  exact depth_sortK L
end

/-! ### begun_in, walked -/
def kI (x : Nat) : Key := .inl ((x : Nat) : Int)
theorem kI_eq {x y : Nat} : decide (kI x = kI y) = eqB x y := by
  unfold kI eqB
  by_cases h : x = y
  · rw [decide_eq_true h, decide_eq_true (by rw [h])]
  · rw [decide_eq_false h, decide_eq_false (fun z => h (by injection z with z; omega))]
theorem kI_mem {met : List Nat} {to : Nat} : (kI to ∈ met.map kI) ↔ met.any (fun x => eqB x to) = true := by
  rw [List.mem_map, List.any_eq_true]
  constructor
  · rintro ⟨x, hx, e⟩; exact ⟨x, hx, by rw [← kI_eq]; exact decide_eq_true e⟩
  · rintro ⟨x, hx, e⟩; exact ⟨x, hx, by rw [← kI_eq] at e; exact of_decide_eq_true e⟩
theorem posK_kI (met : List Nat) (to : Nat) : posK (met.map kI) (kI to) = idxR eqB met to := by
  unfold posK idxR
  induction met with
  | nil => rfl
  | cons x met ih => rw [List.map_cons, List.findIdx_cons, List.findIdx_cons, ih, kI_eq]
theorem eqB_rf (x : Nat) : eqB x x = true := decide_eq_true rfl
theorem eqB_tells {k : Nat} {M : Mach} (h : GoodL k M) : Tells k M eqB := ⟨eqB_rf, fun i j hi hj => by
  unfold eqB
  rw [decide_eq_true_eq]
  exact ⟨fun e => by rw [e]; exact Eqv.refl _, h.apart i j hi hj⟩⟩
/-- the memory of a going over -/
def bmem (m : Mem) (b a : Addr) (met : List Nat) : Mem := (m.set b (.dK (enK 0 (met.map kI)))).set a (.lst (met.map natD))
section
variable {m : Mem} {a b : Addr}
theorem bmem_a {met : List Nat} : (bmem m b a met) a = some (.lst (met.map natD)) := Mem.set_same
theorem bmem_b {met : List Nat} (nab : a ≠ b) : (bmem m b a met) b = some (.dK (enK 0 (met.map kI))) := by unfold bmem; rw [Mem.set_ne nab.symm, Mem.set_same]
theorem bmem_le {met : List Nat} (hb : m b = none) (ha : m a = none) : m.le (bmem m b a met) := Mem.le_set_of (Mem.le_set hb) ha
theorem bmem_add {met : List Nat} {to : Nat} (nab : a ≠ b) :
    ((bmem m b a met).set b (.dK (enK 0 (met.map kI) ++ [(kI to, natD met.length)]))).set a (.lst (met.map natD ++ [natD to])) = bmem m b a (met ++ [to]) := by
  unfold bmem
  rw [Mem.set_comm nab, Mem.set_set, Mem.set_set]
  rw [List.map_append, List.map_append, List.map_cons, List.map_nil, List.map_cons, List.map_nil, enK_snoc, List.length_map, Nat.zero_add]
end
theorem rdok_begun_in {ds m q qe} (h : sp_begun_in ds m q qe) : rd_begun_in (fun cls _ m => qe cls m) (defEnds q) (startD N_begun_in ds) m := by
  obtain ⟨d, e, e0, many, M, r, e1, e2, hr, ok, good, hq⟩ := sp2_at h
  clear h
  subst e0 e1 e2
  have cl := ok.cl
  have most := ok.most
  have te := eqB_tells good
  show rd_begun_in _ (defEnds q) [some (machD M), some (natD r), none, none, none, none, none] m
  unfold rd_begun_in
  walk_at "rf"
  show ∀ b, _ → _
  intro b hb0
  unfold rd_begun_in_1
  walk_at "rf"
  refine ⟨by walk_at "sz", fun a ha => ?_⟩
  obtain ⟨ha0, nab⟩ := Mem.set_none ha
  unfold rd_begun_in_2
  walk_at "rf"
  unfold rd_begun_in_3
  walk_at "rf"
  refine ⟨fun n ρ m' => ∃ (i : Nat) (x6 x7 : Option D), n = 61 - i ∧ (∀ k, k < i → k < (bfsN M eqB r k).length) ∧ m' = bmem m b a (bfsN M eqB r i) ∧ ρ = [some (machD M), some (natD r), some (.ref b), some (.ref a), some (natD i), x6, x7],
    ⟨_, 0, _, _, rfl, (fun _ h => absurd h (Nat.not_lt_zero _)), rfl, rfl⟩, ?_⟩
  rintro n ρ m' ⟨i, x6, x7, rfl, hk, rfl, rfl⟩
  have mok := bfsN_ok (e := eqB) cl hr i hk
  have mfew := mok.few te.rf
  walk_at "rf"
  rw [lenG_r bmem_a, List.length_map]
  walk_at "rf"
  by_cases hlt : i < (bfsN M eqB r i).length
  · rw [decide_eq_true (by omega)]
    walk_at "rf"
    have hlow := met_low mok hlt
    unfold rd_begun_in_3w
    walk_at "rf"
    rw [ixG_L bmem_a (atI_natD hlt)]
    unfold machD
    rw [ixG_t (room_atI ok hlow)]
    show ixG (roomM M _) (.int 1) _ _
    unfold roomM
    rw [ixG_t (at21 _ _)]
    walk_at "rf"
    refine for_inv (fun items ρ m' => ∃ (tos met : List Nat) (x6 x7 : Option D), items = tos.map natD ∧ (∀ x ∈ tos, x < M.length) ∧ MetOk eqB M.length met ∧ addAll eqB met tos = bfsN M eqB r (i + 1) ∧ m' = bmem m b a met ∧
      ρ = [some (.tup (M.map roomD)), some (natD r), some (.ref b), some (.ref a), some (natD i), x6, x7]) (fun _ _ _ _ => trivial) (fun ρ m' hP => ?_) (fun d rr ρ m' hP N hNx => ?_) _ _ _ ?_
    · obtain ⟨tos, met, x6, x7, e, _, _, hA, rfl, rfl⟩ := hP
      cases tos with
      | cons _ _ => cases e
      | nil =>
        have hA' : met = bfsN M eqB r (i + 1) := hA
        subst hA'
        unfold rd_begun_in_3w1
        walk_at "rf"
        refine dn_here ⟨61 - (i + 1), by omega, i + 1, _, _, rfl, fun k hk' => ?_, rfl, rfl⟩
        rcases Nat.lt_or_eq_of_le (Nat.le_of_lt_succ hk') with z | z
        · exact hk k z
        · rw [z]; exact hlt
    · obtain ⟨tos, met, x6, x7, e, hlow', mok', hA, rfl, rfl⟩ := hP
      cases tos with
      | nil => cases e
      | cons to tos =>
        rw [List.map_cons] at e
        obtain ⟨rfl, rfl⟩ := List.cons.inj e
        have hto := hlow' to List.mem_cons_self
        have hA' : addAll eqB (addR eqB met to) tos = bfsN M eqB r (i + 1) := hA
        have few' := mok'.few te.rf
        walk_at "rf"
        unfold rd_begun_in_3w0f
        walk_at "rf"
        rw [inG_K (bmem_b nab) (show keyK _ = some (kI to) from rfl), enK_val]
        by_cases hin : met.any (fun x => eqB x to) = true
        · rw [if_pos (kI_mem.mpr hin)]
          walk_at "rf"
          have : addR eqB met to = met := if_pos hin
          rw [this] at hA'
          exact dn_here (hNx _ _ ⟨tos, met, _, _, rfl, fun x hx => hlow' x (List.mem_cons_of_mem _ hx), mok', hA', rfl, rfl⟩)
        · rw [if_neg (fun z => hin (kI_mem.mp z))]
          walk_at "rf"
          have e2 : addR eqB met to = met ++ [to] := if_neg hin
          have mok2 := addR_ok mok' hto
          rw [e2] at hA' mok2
          unfold rd_begun_in_3w0f0t
          walk_at "rf"
          rw [lenG_r bmem_a, setG_K (bmem_b nab) (show keyK _ = some (kI to) from rfl)]
          refine ⟨by rw [enK_len, List.length_map]; exact sized' (by omega), ?_⟩
          rw [putG_new _ (by rw [enK_val, if_neg (fun z => hin (kI_mem.mp z))]), List.length_map]
          unfold rd_begun_in_3w0f0t1
          walk_at "rf"
          have g : ((bmem m b a met).set b (.dK (enK 0 (met.map kI) ++ [(kI to, natD met.length)]))) a = some (.lst (met.map natD)) := by rw [Mem.set_ne nab]; exact bmem_a
          refine ⟨⟨a, _, rfl, g⟩, ?_⟩
          rw [appendD_r g]
          refine ⟨by rw [List.length_map]; exact sized' (by omega), ?_⟩
          rw [bmem_add nab]
          exact dn_here (hNx _ _ ⟨tos, met ++ [to], _, _, rfl, fun x hx => hlow' x (List.mem_cons_of_mem _ hx), mok2, hA', rfl, rfl⟩)
    · exact ⟨_, _, _, _, rfl, fun x hx => cl.low _ hlow x hx, mok, rfl, rfl, rfl⟩
  · rw [decide_eq_false (by omega)]
    walk_at "rf"
    have him : IsMet M eqB r (bfsN M eqB r i) := by
      refine ⟨i, rfl, ?_, hk⟩
      rcases Nat.lt_or_ge 0 i with z | z
      · have h1 := hk (i - 1) (by omega)
        obtain ⟨t, ht⟩ := bfsN_pre (M := M) (e := eqB) (r := r) (show i - 1 ≤ i by omega)
        have := congrArg List.length ht
        rw [List.length_append] at this
        omega
      · have : i = 0 := by omega
        subst this
        exact absurd (show 0 < (bfsN M eqB r 0).length from Nat.one_pos) hlt
    unfold rd_begun_in_4
    walk_at "rf"
    rw [itOf_r bmem_a]
    have cls : ∀ x ∈ bfsN M eqB r i, ∀ to ∈ rA M x, (bfsN M eqB r i).any (fun y => eqB y to) = true := fun x hx to hto => by
      obtain ⟨j, hj, e⟩ := List.mem_iff_getElem.mp hx
      refine him.closed te hj ?_
      rw [List.getD_eq_getElem?_getD, List.getElem?_eq_getElem hj, Option.getD_some, e]
      exact hto
    refine comp_nat (fun x => .tup [.ftup ((tA M x).map D.int), .tup ((rA M x).map fun to => natD (idxR eqB (bfsN M eqB r i) to))]) bmem_a _ _ (fun x hx K hK => ?_) (by exact sized (by simp; omega)) ?_
    · have hxl := mok.low x hx
      walk_at "rf"
      unfold machD
      rw [ixG_t (room_atI ok hxl)]
      show ixG (roomM M _) (.int 0) _ _
      conv => unfold roomM
      rw [ixG_t (at20 _ _), ixG_t (room_atI ok hxl)]
      show ixG (roomM M _) (.int 1) _ _
      conv => unfold roomM
      rw [ixG_t (at21 _ _)]
      walk_at "rf"
      refine comp_nat (fun to => natD (idxR eqB (bfsN M eqB r i) to)) trivial _ _ (fun to hto K hK => ?_) (by rw [cl.len x hxl]; exact sized (by simp; have := ok.four; omega)) ?_
      · have htl := cl.low x hxl to hto
        walk_at "rf"
        rw [ixG_K (bmem_b nab) (show keyK _ = some (kI to) from rfl) (by rw [enK_val, if_pos (kI_mem.mpr (cls x hx to hto))])]
        rw [Nat.zero_add, posK_kI]
        exact hK
      · exact ⟨by walk_at "sz", hK⟩
    · refine defEnds_le (bmem_le hb0 ha0) ?_
      have e0 : lea many M r = leastL M eqB (bfsN M eqB r i) := (lea_uniq cl hr ⟨⟨_, _, te, him, rfl⟩⟩).symm
      rw [e0] at hq
      have := hq
      unfold machD leastL at this
      rw [List.map_map] at this
      rw [List.nil_append]
      have e : ((bfsN M eqB r i).map fun x => D.tup [.ftup ((tA M x).map D.int), .tup ((rA M x).map fun to => natD (idxR eqB (bfsN M eqB r i) to))]) = (bfsN M eqB r i).map (roomD ∘ fun x => (tA M x, (rA M x).map fun to => ((idxR eqB (bfsN M eqB r i) to : Nat) : Int))) := by
        refine List.map_congr_left fun x _ => ?_
        show _ = roomD _
        unfold roomD
        dsimp only
        rw [List.map_map]; rfl
      rw [e]
      exact this
theorem rdok_begun {ds m q qe} (h : sp_begun ds m q qe) : rd_begun (fun cls _ m => qe cls m) (defEnds q) (startD N_begun ds) m := by
  obtain ⟨d, e0, many, M, e1, ok, good, hq⟩ := sp1_at h
  clear h
  subst e0 e1
  show rd_begun _ (defEnds q) [some (machD M), none] m
  unfold rd_begun machD
  walk_at "rf"
  rw [ixD_t (show atI (M.map roomD) 0 = some (roomM M 0) from room_atI ok ok.few)]
  show ixD (roomM M 0) (.int 1) _ _
  unfold roomM
  rw [ixD_t (at21 _ _)]
  walk_at "rf"
  refine comp_nat (fun r => machD (lea many M r)) trivial _ _ (fun r hr K hK => ?_) (by rw [ok.cl.len 0 ok.few]; exact sized (by simp; have := ok.four; omega)) ?_
  · have hl := ok.cl.low 0 ok.few r hr
    walk_at "rf"
    exact ⟨many, M, r, rfl, rfl, hl, ok, good, hK⟩
  · rw [List.nil_append]
    intro a ha
    have := hq a ha
    unfold behM at this
    rw [List.map_map] at this
    exact defEnds_here this

/-! ### going over, walked -/
/-- a going over's memory: what is found at r, what waits at w -/
structure LS (m M' : Mem) (r w : Addr) (o : MO) (W : List Mach) : Prop where
  le : m.le M'
  r0 : m r = none
  w0 : m w = none
  ne : r ≠ w
  atr : M' r = some o
  atw : M' w = some (.lst (W.map machD))
section
variable {m M' : Mem} {r w : Addr} {o : MO} {W : List Mach}
theorem LS.setW (h : LS m M' r w o W) (V : List Mach) : LS m (M'.set w (.lst (V.map machD))) r w o V :=
  ⟨Mem.le_set_of h.le h.w0, h.r0, h.w0, h.ne, by rw [Mem.set_ne h.ne]; exact h.atr, Mem.set_same⟩
theorem LS.setR (h : LS m M' r w o W) (o' : MO) : LS m (M'.set r o') r w o' W :=
  ⟨Mem.le_set_of h.le h.r0, h.r0, h.w0, h.ne, Mem.set_same, by rw [Mem.set_ne h.ne.symm]; exact h.atw⟩
theorem nil_machs (m : Mem) (W : List Mach) : ∃ ps, pyDs m (W.map machD) = some ps ∧ SeqAt.shaped (.list ps) = true := ⟨_, pyWs_machs _ W, shaped_machs W⟩
theorem SeqM.le {m m' : Mem} {d : D} {Ms : List Mach} (h : SeqM m d Ms) (l : m.le m') : SeqM m' d Ms := h.imp id fun ⟨a, e, g⟩ => ⟨a, e, l _ _ g⟩
theorem itOf_seq {m0 : Mem} {d : D} {Ms : List Mach} {q : Itd → Prop} (h : SeqM m0 d Ms) (l : m0.le m) (hq : ∀ chk : Mem → Prop, (∀ M', m0.le M' → chk M') → q ⟨Ms.map machD, chk⟩) : itOf m d q := by
  rcases h with rfl | ⟨a, rfl, g⟩
  · exact hq _ fun _ _ => trivial
  · rw [itOf_r (l _ _ g)]
    exact hq _ fun M' l => l _ _ g
theorem listD_at {a : Addr} {xs : List D} {q : List D → Mem → Prop} (h : m a = some (.lst xs)) (hq : q xs m) : listD (.ref a) m q := by
  rw [listD_r h]
  exact hq
end
theorem rdok_led_to {ds m q qe} (h : sp_led_to ds m q qe) : rd_led_to (fun cls _ m => qe cls m) (defEnds q) (startD N_led_to ds) m := by
  obtain ⟨d, e, e0, many, Ps, Fs, li, hq⟩ := sp2_at h
  clear h
  obtain ⟨p, b, e1, e2, av, hb⟩ := li.ex
  subst e0 e1 e2
  show rd_led_to _ (defEnds q) [some (.ref p), some (.ref b), none, none, none] m
  unfold rd_led_to dDictT
  walk_at "rf"
  intro r hr
  unfold rd_led_to_1
  walk_at "rf"
  have hb' : (m.set r (.dT [])) b = some (.lst (Fs.map machD)) := by rw [Mem.set_ne (Mem.live_ne hb hr)]; exact hb
  refine listD_at hb' fun w hw => ?_
  obtain ⟨hw0, nwr⟩ := Mem.set_none hw
  unfold rd_led_to_2
  walk_at "rf"
  refine ⟨fun n ρ M' => ∃ (Os W : List Mach) (x4 : Option D), n = 5 * (60 - Os.length) + W.length ∧ Dfs many Fs Os W ∧ LS m M' r w (.dT (foundD Os)) W ∧ W.length ≤ 100 + 4 * Os.length ∧ ρ = [some (.ref p), some (.ref b), some (.ref r), some (.ref w), x4],
    ⟨_, [], Fs, _, rfl, Dfs.start, ⟨Mem.le_set_of (Mem.le_set hr) hw0, hr, hw0, nwr.symm, by rw [Mem.set_ne nwr.symm, Mem.set_same]; rfl, Mem.set_same⟩, by have := li.few; simpa using this, rfl⟩, ?_⟩
  rintro n ρ M' ⟨Os, W, x4, rfl, df, ls, cnt, rfl⟩
  have hin : ∀ L, Led many Fs L → L ∈ Ps.map Prod.fst := fun L l => l.closed li.fs fun L z N z' => by
    obtain ⟨⟨x, a⟩, hx, rfl⟩ := List.mem_map.mp z
    exact li.cl _ hx N z'
  have few := df.few hin
  rw [List.length_map] at few
  have few60 := av.few
  walk_at "rf"
  rw [itemsL_r ls.atw]
  dsimp only
  refine ⟨nil_machs _ W, ?_⟩
  by_cases hW : W = []
  · subst hW
    walk_at "rf"
    unfold rd_led_to_3
    walk_at "rf"
    exact defEnds_here (hq r M' Os ls.le hr ls.atr df.nd fun L => df.done L)
  · obtain ⟨V, L, rfl⟩ := last_of hW
    have ne : (((V ++ [L]).map machD).isEmpty) = false := by rw [List.map_append]; simp
    rw [ne]
    walk_at "rf"
    unfold rd_led_to_2w
    walk_at "rf"
    refine ⟨⟨w, _, rfl, ls.atw⟩, pop_machs ls.atw ?_⟩
    have ls2 := ls.setW V
    unfold rd_led_to_2w1
    walk_at "rf"
    refine in_found ls2.atr ?_
    by_cases hL : L ∈ Os
    · rw [decide_eq_true hL]
      walk_at "rf"
      rw [List.length_append] at cnt
      refine dn_here ⟨5 * (60 - Os.length) + V.length, by rw [List.length_append]; exact Nat.add_lt_add_left (Nat.lt_succ_self _) _, Os, V, _, rfl, df.skip hL, ls2, by omega, rfl⟩
    · rw [decide_eq_false hL]
      walk_at "rf"
      unfold rd_led_to_2w1t
      walk_at "rf"
      have lt := df.lt hL hin
      rw [List.length_map] at lt
      refine set_found ls2.atr (by omega) hL ?_
      have ls3 := ls2.setR (.dT (foundD (Os ++ [L])))
      unfold rd_led_to_2w1t1
      walk_at "rf"
      have hmem := hin L (df.sw L (by simp))
      obtain ⟨c, hc⟩ := arr_mem hmem
      have hc4 := li.four _ hc
      refine ⟨⟨w, _, rfl, ls3.atw⟩, (av.le ls3.le).get hc (ext_machs ls3.atw (ls3.le _ _ (av.val _ hc)) ?_ ?_)⟩
      · rw [List.length_append, List.length_singleton] at cnt
        dsimp only at hc4 ⊢
        omega
      · rw [List.length_append, List.length_singleton] at cnt
        dsimp only at hc4 ⊢
        refine dn_here ⟨5 * (60 - (Os ++ [L]).length) + (V ++ behM many L).length, ?_, Os ++ [L], V ++ behM many L, _, rfl, df.add hL, ls3.setW _, ?_, rfl⟩
        · rw [List.length_append, List.length_append, List.length_append, List.length_singleton]; omega
        · rw [List.length_append, List.length_append, List.length_singleton]; omega
/-- what unlike has so far -/
structure US (k : Nat) (m M' : Mem) (p w : Addr) (Ps : List (Mach × Addr)) (W : List Mach) : Prop where
  le : m.le M'
  p0 : m p = none
  w0 : m w = none
  ne : p ≠ w
  atp : M' p = some (.dT (arrD Ps))
  atw : M' w = some (.lst (W.map machD))
  val : ∀ x ∈ Ps, M' x.2 = some (.lst ((behM k x.1).map machD)) ∧ x.2 ≠ w ∧ x.2 ≠ p
theorem rdok_unlike {ds m q qe} (h : sp_unlike ds m q qe) : rd_unlike (fun cls _ m => qe cls m) (defEnds q) (startD N_unlike ds) m := by
  obtain ⟨d, e0, many, Ms, U, hs, ok, hq⟩ := sp1_at h
  clear h
  subst e0
  show rd_unlike _ (defEnds q) [some d, none, none, none, none] m
  unfold rd_unlike dDictT
  walk_at "rf"
  intro p hp
  unfold rd_unlike_1
  walk_at "rf"
  refine itOf_seq hs (Mem.le_set hp) fun chk hchk => ?_
  refine for_inv (fun items ρ M' => ∃ (dn rest : List Mach) (Ps : List (Mach × Addr)) (x2 x3 x4 : Option D), Ms = dn ++ rest ∧ items = rest.map machD ∧ m.le M' ∧ M' p = some (.dT (arrD Ps)) ∧ (∀ x ∈ Ps, M' x.2 = some (.lst ((behM many x.1).map machD)) ∧ x.2 ≠ p) ∧ Dfs many (leasts many dn) (Ps.map Prod.fst) [] ∧
      ρ = [some d, some (.ref p), x2, x3, x4]) (fun _ _ M' ⟨_, _, _, _, _, _, _, _, l, _⟩ => hchk M' l) (fun ρ M' hP => ?_) (fun dd rr ρ M' hP N hNx => ?_) _ _ _ ?_
  · obtain ⟨dn, rest, Ps, x2, x3, x4, e1, e2, l, ap, vs, df, rfl⟩ := hP
    cases rest with
    | cons _ _ => cases e2
    | nil =>
      rw [List.append_nil] at e1
      subst e1
      unfold rd_unlike_2
      walk_at "rf"
      have few := df.few ok.u
      rw [List.length_map] at few
      have sm := ok.small
      exact defEnds_here (hq p M' Ps l hp ap ⟨.inl ap, fun x hx => (vs x hx).1, df.nd, by omega⟩ fun L => df.done L)
  · obtain ⟨dn, rest, Ps, x2, x3, x4, e1, e2, l, ap, vs, df, rfl⟩ := hP
    cases rest with
    | nil => cases e2
    | cons M rest =>
      rw [List.map_cons] at e2
      obtain ⟨rfl, rfl⟩ := List.cons.inj e2
      have hM : M ∈ Ms := by rw [e1]; simp
      have okM := ok.ok M hM
      walk_at "rf"
      unfold rd_unlike_1f
      walk_at "rf"
      refine ⟨many, M, rfl, okM, fun L0 hL0 => ?_⟩
      have eL := lea_uniq okM.cl okM.few hL0
      subst eL
      refine ⟨by walk_at "sz", fun w hw => ?_⟩
      have nwp : p ≠ w := Mem.live_ne ap hw
      have hw0 := Mem.le_none l hw
      unfold rd_unlike_1f1
      walk_at "rf"
      have edn : leasts many (dn ++ [M]) = leasts many dn ++ [lea many M 0] := by unfold leasts; rw [List.map_append]; rfl
      have hU : ∀ L, Led many (leasts many (dn ++ [M])) L → L ∈ U := fun L z => ok.u L (z.mem fun N z => by
        rw [e1]
        have : dn ++ M :: rest = (dn ++ [M]) ++ rest := by rw [List.append_assoc]; rfl
        rw [this]
        unfold leasts at z ⊢
        rw [List.map_append]
        exact List.mem_append_left _ z)
      refine ⟨fun n ρ M' => ∃ (Ps : List (Mach × Addr)) (W : List Mach) (x4 : Option D), n = 5 * (60 - Ps.length) + W.length ∧ Dfs many (leasts many (dn ++ [M])) (Ps.map Prod.fst) W ∧ US many m M' p w Ps W ∧ W.length ≤ 1 + 4 * Ps.length ∧ ρ = [some d, some (.ref p), some (machD M), some (.ref w), x4],
        ⟨_, Ps, [lea many M 0], _, rfl, by rw [edn]; exact df.more _, ⟨Mem.le_set_of l hw0, hp, hw0, nwp, by rw [Mem.set_ne nwp]; exact ap, Mem.set_same, fun x hx => ?_⟩, by simp, rfl⟩, ?_⟩
      · obtain ⟨v1, v2⟩ := vs x hx
        have nx := Mem.live_ne v1 hw
        exact ⟨by rw [Mem.set_ne nx]; exact v1, nx, v2⟩
      clear df vs ap l
      rintro n ρ M' ⟨Ps, W, x4, rfl, df, us, cnt, rfl⟩
      have few := df.few hU
      rw [List.length_map] at few
      have sm := ok.small
      walk_at "rf"
      rw [itemsL_r us.atw]
      dsimp only
      refine ⟨nil_machs _ W, ?_⟩
      by_cases hW : W = []
      · subst hW
        walk_at "rf"
        exact dn_here (hNx _ _ ⟨dn ++ [M], rest, Ps, _, _, _, by rw [e1, List.append_assoc]; rfl, rfl, us.le, us.atp, fun x hx => ⟨(us.val x hx).1, (us.val x hx).2.2⟩, df, rfl⟩)
      · obtain ⟨V, L, rfl⟩ := last_of hW
        have ne : (((V ++ [L]).map machD).isEmpty) = false := by rw [List.map_append]; simp
        rw [ne]
        walk_at "rf"
        unfold rd_unlike_1f1w
        walk_at "rf"
        refine ⟨⟨w, _, rfl, us.atw⟩, pop_machs us.atw ?_⟩
        rw [List.length_append, List.length_singleton] at cnt
        have us2 : US many m (M'.set w (.lst (V.map machD))) p w Ps V := ⟨Mem.le_set_of us.le us.w0, us.p0, us.w0, us.ne, by rw [Mem.set_ne us.ne]; exact us.atp, Mem.set_same, fun x hx => ⟨by rw [Mem.set_ne (us.val x hx).2.1]; exact (us.val x hx).1, (us.val x hx).2⟩⟩
        unfold rd_unlike_1f1w1
        walk_at "rf"
        refine in_arr us2.atp df.nd ?_
        by_cases hL : L ∈ Ps.map Prod.fst
        · rw [decide_eq_true hL]
          walk_at "rf"
          unfold dCnt
          dsimp only
          refine dn_here ?_
          refine ⟨5 * (60 - Ps.length) + V.length, by rw [List.length_append]; exact Nat.add_lt_add_left (Nat.lt_succ_self _) _, Ps, V, _, rfl, df.skip hL, us2, by omega, rfl⟩
        · rw [decide_eq_false hL]
          walk_at "rf"
          have lt := df.lt hL hU
          rw [List.length_map] at lt
          unfold rd_unlike_1f1w2
          walk_at "rf"
          rw [lenG_T us2.atp, List.length_map]
          walk_at "rf"
          rw [if_neg (fun z => by have := eq_of_beq z; omega)]
          have hl : IsLea many L := (df.sw L (by simp)).isLea (leasts_lea fun N z => ok.ok N (by rw [e1]; rcases List.mem_append.mp z with z | z <;> simp_all))
          unfold rd_unlike_1f1w3
          walk_at "rf"
          refine ⟨many, L, rfl, hl.mach, hl.good, fun c hc => ?_⟩
          have c0 := Mem.le_none us2.le hc
          have ncp := Mem.live_ne us2.atp hc
          have ncw := Mem.live_ne us2.atw hc
          refine set_arr (by rw [Mem.set_ne ncp]; exact us2.atp) (by omega) hL ?_
          unfold rd_unlike_1f1w4
          walk_at "rf"
          have h4 : (behM many L).length = many := beh_len hl
          have four := ok.four
          have atc : (((M'.set w (.lst (V.map machD))).set c (.lst ((behM many L).map machD))).set p (.dT (arrD (Ps ++ [(L, c)])))) c = some (.lst ((behM many L).map machD)) := by rw [Mem.set_ne ncp.symm, Mem.set_same]
          have atw : (((M'.set w (.lst (V.map machD))).set c (.lst ((behM many L).map machD))).set p (.dT (arrD (Ps ++ [(L, c)])))) w = some (.lst (V.map machD)) := by rw [Mem.set_ne nwp.symm, Mem.set_ne ncw, Mem.set_same]
          refine ⟨⟨w, _, rfl, atw⟩, ?_⟩
          have nd2 := (df.add hL).nd
          have ev : ∀ x ∈ Ps ++ [(L, c)], (((M'.set w (.lst (V.map machD))).set c (.lst ((behM many L).map machD))).set p (.dT (arrD (Ps ++ [(L, c)])))) x.2 = some (.lst ((behM many x.1).map machD)) ∧ x.2 ≠ w ∧ x.2 ≠ p := fun x hx => by
            rcases List.mem_append.mp hx with hx | hx
            · obtain ⟨v1, v2, v3⟩ := us2.val x hx
              have nx := Mem.live_ne v1 hc
              exact ⟨by rw [Mem.set_ne v3, Mem.set_ne nx]; exact v1, v2, v3⟩
            · rw [List.mem_singleton.mp hx]
              exact ⟨atc, ncw.symm, ncp.symm⟩
          have epf : (Ps ++ [(L, c)]).map Prod.fst = Ps.map Prod.fst ++ [L] := by rw [List.map_append]; rfl
          have av : ArrV many (((M'.set w (.lst (V.map machD))).set c (.lst ((behM many L).map machD))).set p (.dT (arrD (Ps ++ [(L, c)])))) p (Ps ++ [(L, c)]) :=
            ⟨.inl Mem.set_same, fun x hx => (ev x hx).1, by rw [epf]; exact nd2, by rw [List.length_append, List.length_singleton]; omega⟩
          refine av.get (a := c) (by simp) (ext_machs atw atc (by omega) ?_)
          refine dn_here ⟨5 * (60 - (Ps ++ [(L, c)]).length) + (V ++ behM many L).length, ?_, Ps ++ [(L, c)], V ++ behM many L, _, rfl, by rw [epf]; exact df.add hL, ⟨?_, hp, hw0, nwp, by rw [Mem.set_ne nwp]; exact Mem.set_same, Mem.set_same, fun x hx => ?_⟩, ?_, rfl⟩
          · rw [List.length_append, List.length_append, List.length_append, List.length_singleton, List.length_singleton]; omega
          · exact Mem.le_set_of (Mem.le_set_of (Mem.le_set_of us2.le c0) hp) hw0
          · obtain ⟨v1, v2, v3⟩ := ev x hx
            exact ⟨by rw [Mem.set_ne v2]; exact v1, v2, v3⟩
          · rw [List.length_append, List.length_append, List.length_singleton]; omega
  · exact ⟨[], Ms, [], _, _, _, rfl, rfl, Mem.le_set hp, Mem.set_same, (fun _ h => nomatch h), Dfs.none, rfl⟩

theorem comp_filterL {chk : Mem → Prop} {i : Nat} {tt : DTT} {te : DTE} {ρ : DEnv} {q : List D → Mem → Prop} (p : D → Bool) {m : Mem} (hc : ∀ M, m.le M → chk M) : ∀ (items acc : List D),
    (∀ d ∈ items, ∀ M, m.le M → ∀ K : Bool → Mem → Prop, (∀ M', m.le M' → K (p d) M') → tt (ρ.set i (some d)) M K) → (∀ d ∈ items, ∀ M, m.le M → ∀ K : DQ, K d M → te (ρ.set i (some d)) M K) → acc.length + items.length ≤ sizeLine →
    (∀ M, m.le M → q (acc ++ items.filter p) M) → ∀ M, m.le M → compR chk (gNm i) tt te ρ q items acc M
  | [], acc, _, _, _, h, M, l => by
    have := h M l
    rw [List.filter_nil, List.append_nil] at this
    exact ⟨hc M l, this⟩
  | d :: r, acc, ht, hs, hz, h, M, l => by
    refine ⟨hc M l, ?_⟩
    show tt (ρ.set i (some d)) M fun b m3 => if b = true then te (ρ.set i (some d)) m3 (fun y m4 => acc.length < sizeLine ∧ compR chk (gNm i) tt te ρ q r (acc ++ [y]) m4) else compR chk (gNm i) tt te ρ q r acc m3
    refine ht d List.mem_cons_self M l _ fun M' l' => ?_
    by_cases hp : p d = true
    · rw [if_pos hp]
      refine hs d List.mem_cons_self M' l' _ ⟨by rw [List.length_cons] at hz; omega, comp_filterL p hc r (acc ++ [d]) (fun e he => ht e (List.mem_cons_of_mem _ he)) (fun e he => hs e (List.mem_cons_of_mem _ he)) (by rw [List.length_append, List.length_singleton]; rw [List.length_cons] at hz; omega) (fun M'' l'' => ?_) M' l'⟩
      have := h M'' l''
      rw [List.filter_cons_of_pos hp] at this
      rw [List.append_assoc]
      exact this
    · rw [if_neg hp]
      refine comp_filterL p hc r acc (fun e he => ht e (List.mem_cons_of_mem _ he)) (fun e he => hs e (List.mem_cons_of_mem _ he)) (by rw [List.length_cons] at hz; omega) (fun M'' l'' => ?_) M' l'
      have := h M'' l''
      rw [List.filter_cons_of_neg hp] at this
      exact this
/-! ### those that come again, walked -/
theorem machD_inj {M N : Mach} (h : machD M = machD N) : M = N := by
  have := keyT_mach M
  rw [h, keyT_mach N] at this
  exact (keyM_inj (Option.some.inj this)).symm
theorem inA_in {m : Mem} {a : Addr} {ms : List Mach} {f : Mach} {neg : Bool} {q : DQ} (h : m a = some (.lst (ms.map machD))) (hq : q (.bl (if neg then !decide (f ∈ ms) else decide (f ∈ ms))) m) : inA neg (machD f) (.ref a) m q := by
  have e1 := pyD_mach m f
  have e2 := pyD_refMachs h
  have ev : (ms.map pyMa).any (fun z => PyData.eqv z (pyMa f)) = decide (f ∈ ms) := by
    rw [Bool.eq_iff_iff, List.any_eq_true, decide_eq_true_iff]
    constructor
    · rintro ⟨z, hz, e⟩
      obtain ⟨y, hy, rfl⟩ := List.mem_map.mp hz
      rw [eqv_pyMa] at e
      rw [← of_decide_eq_true e]; exact hy
    · intro z
      exact ⟨pyMa f, List.mem_map.mpr ⟨f, z, rfl⟩, by rw [eqv_pyMa]; exact decide_eq_true rfl⟩
  unfold inA
  rw [e1, e2]
  refine ⟨shaped_mach _, shaped_machs _, ?_⟩
  show q (.bl (if neg = true then !((ms.map pyMa).any fun z => PyData.eqv z (pyMa f)) else (ms.map pyMa).any fun z => PyData.eqv z (pyMa f))) m
  rw [ev]
  exact hq
theorem ArrV.walked {k : Nat} {m : Mem} {p : Addr} {Ps : List (Mach × Addr)} (h : ArrV k m p Ps) (hp : m p = some (.dT (arrD Ps))) (es : Array DictEntry) (ep : Nat) : ArrV k (m.set p (.dR (kvT (arrD Ps)) es ep ((arrD Ps).map Prod.fst))) p Ps :=
  ⟨.inr ⟨es, ep, Mem.set_same⟩, fun x hx => by
    have v := h.val x hx
    have ne : x.2 ≠ p := fun e => by rw [e, hp] at v; cases v
    rw [Mem.set_ne ne]; exact v, h.nd, h.few⟩
open Classical in
noncomputable def homeB (k : Nat) (d : D) : Bool := decide (∃ L, d = machD L ∧ Led k (behM k L) L)
theorem homeB_is {k : Nat} {L : Mach} : homeB k (machD L) = true ↔ Led k (behM k L) L := by
  classical
  unfold homeB
  rw [decide_eq_true_iff]
  exact ⟨fun ⟨N, e, h⟩ => by rw [machD_inj e]; exact h, fun h => ⟨L, rfl, h⟩⟩
/-- the machines that come again themselves -/
noncomputable def homeL (k : Nat) (Ps : List (Mach × Addr)) : List Mach := (Ps.map Prod.fst).filter fun L => homeB k (machD L)
theorem home_items (k : Nat) (Ps : List (Mach × Addr)) : ((arrD Ps).map Prod.fst).filter (homeB k) = (homeL k Ps).map machD := by
  have e : (arrD Ps).map Prod.fst = (Ps.map Prod.fst).map machD := by unfold arrD; rw [List.map_map, List.map_map]; rfl
  unfold homeL
  rw [e, List.filter_map]
  rfl
theorem homeL_mem {k : Nat} {Ps : List (Mach × Addr)} {L : Mach} : L ∈ homeL k Ps ↔ L ∈ Ps.map Prod.fst ∧ Led k (behM k L) L := by
  unfold homeL
  rw [List.mem_filter, homeB_is]
theorem Led.one {k : Nat} {Fs : List Mach} {L : Mach} (h : Led k Fs L) : ∃ F ∈ Fs, Led k [F] L := by
  induction h with
  | base z => exact ⟨_, z, .base (List.mem_singleton.mpr rfl)⟩
  | step _ z ih => obtain ⟨F, hF, l⟩ := ih; exact ⟨F, hF, l.step z⟩
section
variable {k : Nat} {m : Mem} {p : Addr} {Ps : List (Mach × Addr)} {Ms U : List Mach}
theorem due_is (hPs : ∀ L, L ∈ Ps.map Prod.fst ↔ Led k (leasts k Ms) L) (L : Mach) : Led k (homeL k Ps) L ↔ Due k Ms L := by
  constructor
  · intro h
    obtain ⟨F, hF, l⟩ := h.one
    obtain ⟨h1, h2⟩ := homeL_mem.mp hF
    exact ⟨F, ⟨(hPs F).mp h1, h2⟩, l⟩
  · rintro ⟨h, hh, l⟩
    exact l.mono fun N z => by rw [List.mem_singleton.mp z]; exact .base (homeL_mem.mpr ⟨(hPs h).mpr hh.1, hh.2⟩)
/-- what the arrows are good for -/
structure ArrOk (k : Nat) (Ps : List (Mach × Addr)) : Prop where
  lea : ∀ x ∈ Ps, IsLea k x.1
  cl : ∀ x ∈ Ps, ∀ L ∈ behM k x.1, L ∈ Ps.map Prod.fst
  four : ∀ x ∈ Ps, (behM k x.1).length ≤ 4
theorem ArrOk.of (ok : MsOk k Ms U) (hPs : ∀ L, L ∈ Ps.map Prod.fst ↔ Led k (leasts k Ms) L) : ArrOk k Ps := by
  have l : ∀ x ∈ Ps, IsLea k x.1 := fun x hx => ok.lea ((hPs x.1).mp (List.mem_map.mpr ⟨x, hx, rfl⟩))
  exact ⟨l, fun x hx L z => (hPs L).mpr (((hPs x.1).mp (List.mem_map.mpr ⟨x, hx, rfl⟩)).step z), fun x hx => by rw [beh_len (l x hx)]; exact ok.four⟩
theorem ArrOk.ledIn (h : ArrOk k Ps) (av : ArrV k m p Ps) {x : Mach × Addr} (hx : x ∈ Ps) : LedIn k m (.ref p) (.ref x.2) Ps (behM k x.1) :=
  ⟨⟨p, x.2, rfl, rfl, av, av.val x hx⟩, by have := h.four x hx; omega, h.cl x hx, h.cl, h.four⟩
theorem ArrOk.homeIn (h : ArrOk k Ps) (av : ArrV k m p Ps) {b : Addr} (hb : m b = some (.lst ((homeL k Ps).map machD))) : LedIn k m (.ref p) (.ref b) Ps (homeL k Ps) :=
  ⟨⟨p, b, rfl, rfl, av, hb⟩, by
    have h1 : (homeL k Ps).length ≤ (Ps.map Prod.fst).length := List.length_filter_le ..
    have h2 := av.few
    rw [List.length_map] at h1
    omega, fun L z => (homeL_mem.mp z).1, h.cl, h.four⟩
theorem keys_go {tb : DTE} {ρ : DEnv} {q : List D → Mem → Prop} (f : Mach → D) : ∀ (Os : List Mach) (acc : List D), (∀ L ∈ Os, ∀ K : DQ, K (f L) m → tb (ρ ++ [some (machD L)]) m K) → q (acc ++ Os.map f) m → keysR tb ρ q (Os.map machD) acc m
  | [], acc, _, h => by
    rw [List.map_nil, List.append_nil] at h
    exact h
  | L :: Os, acc, ht, h => by
    rw [List.map_cons, keysR_cons]
    refine ht L List.mem_cons_self _ (keys_go f Os (acc ++ [f L]) (fun N z => ht N (List.mem_cons_of_mem _ z)) ?_)
    rw [List.append_assoc]
    exact h
end
theorem rdok_come_again (P_come_again : Addr) (CL : List (Str × Addr)) (l_come_again_0 : LamSyn) {ds m q qe} (h : (sp_come_again P_come_again) ds m q qe) : rd_come_again P_come_again CL l_come_again_0 (fun cls _ m => qe cls m) (defEnds q) (startD N_come_again ds) m := by
  obtain ⟨d, e0, many, Ms, U, hs, ok, hP, hq⟩ := sp1_at h
  clear h
  subst e0
  show rd_come_again _ _ _ _ (defEnds q) [some d, none, none, none] m
  unfold rd_come_again
  walk_at "rf"
  refine ⟨many, Ms, U, hs, ok, fun p M1 Ps l1 hp atp av hPs => ?_⟩
  have aok := ArrOk.of ok hPs
  unfold rd_come_again_1 iKeysT
  walk_at "rf"
  refine ⟨p, _, rfl, atp, fun es ep => ?_⟩
  have av2 := av.walked atp es ep
  have l2 := Mem.le_set_of (o := .dR (kvT (arrD Ps)) es ep ((arrD Ps).map Prod.fst)) l1 hp
  refine comp_filterL (homeB many) (fun M l => l _ _ Mem.set_same) _ _ (fun d hd M l K hK => ?_) (fun d hd M l K hK => ?_) (by rw [List.length_map, List.length_map]; exact sized (by have := av.few; simp; omega)) (fun M l => ?_) _ (Mem.le_refl _)
  · obtain ⟨x, hx, rfl⟩ := List.mem_map.mp hd
    obtain ⟨y, hy, rfl⟩ := List.mem_map.mp hx
    have avM := av2.le l
    walk_at "rf"
    refine avM.get (a := y.2) hy ?_
    refine ⟨many, Ps, behM many y.1, aok.ledIn avM hy, fun r M' Os l' hr atr nd hO => in_found atr ?_⟩
    have : decide (y.1 ∈ Os) = homeB many (machD y.1) := by
      rw [Bool.eq_iff_iff, decide_eq_true_iff, homeB_is]; exact hO y.1
    dsimp only
    rw [this]
    exact hK M' (Mem.le_trans l l')
  · walk_at "rf"
    exact hK
  · rw [List.nil_append, home_items]
    intro b hb
    unfold rd_come_again_2
    walk_at "rf"
    have l3 := Mem.le_set (o := .lst ((homeL many Ps).map machD)) hb
    have avM := (av2.le l).le l3
    unfold dSortBy
    walk_at "rf"
    refine ⟨many, Ps, homeL many Ps, aok.homeIn avM Mem.set_same, fun r M' Os l' hr atr nd hO => ?_⟩
    have lm : m.le M' := Mem.le_trans l2 (Mem.le_trans l (Mem.le_trans l3 l'))
    have r0 : m r = none := Mem.le_none (Mem.le_trans l2 (Mem.le_trans l l3)) hr
    unfold dKeep
    walk_at "rf"
    refine ⟨lm _ _ hP, fun f hf => ⟨f, _, rfl, Mem.set_same, ?_⟩⟩
    have f0 : m f = none := Mem.le_none lm hf
    have nrf : r ≠ f := Mem.live_ne atr hf
    unfold srcSK
    dsimp only
    rw [Mem.set_ne nrf, atr]
    dsimp only
    have dO : ∀ L, L ∈ Os ↔ Due many Ms L := fun L => (hO L).trans (due_is hPs L)
    have few : Os.length ≤ 60 := by
      have := nd_len nd (ys := U) fun L z => ok.u L ((dO L).mp z).led
      have := ok.small
      omega
    refine ⟨by rw [List.length_map]; omega, fun es2 ep2 => ?_⟩
    rw [show (foundD Os).map Prod.fst = Os.map machD by unfold foundD; rw [List.map_map]; rfl]
    refine keys_go (fun L => .tup [natD L.length, machD L]) Os [] (fun L hL K hK => ?_) ?_
    · simp only [List.cons_append, List.nil_append]
      walk_at "rf"
      show lenG [.tup (L.map roomD)] _ _
      rw [lenG_t, List.length_map]
      exact ⟨by walk_at "sz", hK⟩
    · rw [List.nil_append]
      refine ⟨Os.map sortK, pyYs_machs _ Os, sortK_all, sortK_able, sortK_deep, fun a ha => ?_⟩
      rw [srt_machs, ← dueL_of nd dO]
      have ha2 := (Mem.set_none ha).1
      have ha3 := (Mem.set_none ha2).1
      have a0 := Mem.le_none lm ha3
      exact defEnds_here (hq a _ (Mem.le_set_of (Mem.le_set_of (Mem.le_set_of lm f0) r0) a0) a0 Mem.set_same)

theorem comp_none {chk : Mem → Prop} {g : DTG} {tt : DTT} {te : DTE} {ρ : DEnv} {q : List D → Mem → Prop} {m : Mem} {acc : List D} (hc : chk m) (hq : q acc m) : ∀ items : List D,
    (∀ d ∈ items, ∀ K : DEnv → Bool → Mem → Prop, (∀ ρ2, K ρ2 false m) → g d ρ m fun ρ2 m2 => tt ρ2 m2 (K ρ2)) → compR chk g tt te ρ q items acc m
  | [], _ => ⟨hc, hq⟩
  | d :: r, h => ⟨hc, h d List.mem_cons_self (fun ρ2 b m3 => if b = true then te ρ2 m3 fun y m4 => acc.length < sizeLine ∧ compR chk g tt te ρ q r (acc ++ [y]) m4 else compR chk g tt te ρ q r acc m3) fun ρ2 => by
      rw [if_neg (by decide)]
      exact comp_none hc hq r fun e he => h e (List.mem_cons_of_mem _ he)⟩
/-! ### the law's machines -/
theorem rdok_law_turn {ds m q qe} (h : sp_law_turn ds m q qe) : rd_law_turn (fun cls _ m => qe cls m) (defEnds q) (startD N_law_turn ds) m := by
  obtain ⟨d, k, l, e0, a, n, i, j, e1, ha, e2, i2, i3, e3, hq⟩ := sp3_at h
  clear h
  subst e0 e1 e2 e3
  show rd_law_turn _ (defEnds q) [some (.ref a), some (.int i), some (.int j), none, none, none] m
  unfold rd_law_turn
  walk_at "rd"
  refine ⟨RgOk.of_le (by omega) (by omega) (by omega) (by omega), fun a1 h1 => ⟨by omega, by omega, ?_⟩⟩
  have na1 : a ≠ a1 := Mem.live_ne ha h1
  have g1 : ∀ x y, ((m.set a x).set a1 y) a = some x := fun x y => by rw [Mem.set_ne na1, Mem.set_same]
  have w1 : ∀ x y x', ((m.set a x).set a1 y).set a x' = (m.set a x').set a1 y := fun x y x' => by rw [Mem.set_comm na1.symm, Mem.set_set]
  refine comp_inv (fun items acc m' => ∃ (left done : List Int) (n' : Int), acc = done.map D.int ∧ left.length = items.length ∧ (left ++ done).Perm (rngI i) ∧ m' = (m.set a (.lst [.int n'])).set a1 (.lst (left.map D.int))) (fun _ _ _ _ => trivial) (fun acc m' hP => ?_) (fun d r acc m' hP N hN => ?_) _ _ _ ?_
  · obtain ⟨left, done, n', rfl, hl, hp, rfl⟩ := hP
    have e : left = [] := List.length_eq_zero_iff.mp hl
    subst e
    rw [List.nil_append] at hp
    have tn := isTurn_of_perm i2 (by omega) hp
    have lem : (m.set a (.lst [.int n'])).le ((m.set a (.lst [.int n'])).set a1 (.lst (([] : List Int).map D.int))) := Mem.le_set (by rw [Mem.set_ne na1.symm]; exact h1)
    intro a2 h2
    have l2 := Mem.le_trans lem (Mem.le_set (o := .lst (done.map D.int)) h2)
    have hi : i = 2 ∨ i = 3 := by omega
    have fin : ∀ ns : List Int, isTurnL ns = true → ns.length = i → (defEnds q).rt (.ftup (ns.map D.int)) (((m.set a (.lst [.int n'])).set a1 (.lst (([] : List Int).map D.int))).set a2 (.lst (done.map D.int))) := fun ns z1 z2 => defEnds_le l2 (hq ns n' z1 z2)
    by_cases j0 : j = 0
    · subst j0
      walk_at "rd"
      unfold dTupRgF
      walk_at "rd"
      refine ⟨RgOk.of_le (by omega) (by omega) (by omega) (by omega), ?_⟩
      rcases hi with rfl | rfl
      · exact fin [0, 1] (by decide) rfl
      · exact fin [0, 1, 2] (by decide) rfl
    · walk_at "rd"
      rw [if_neg (by simpa using j0)]
      by_cases j1 : j = 1
      · subst j1
        walk_at "rd"
        unfold dTupF dTupRg2 dListRg2
        walk_at "rd"
        rcases hi with rfl | rfl
        · refine ⟨by simp [sizeLine_eq], RgOk.of_le (by omega) (by omega) (by omega) (by omega), [.int 1, .int 0], [], rfl, rfl, by simp, by simp [sizeLine_eq], fun _ => ?_, fun e => absurd rfl e⟩
          exact fin [1, 0] (by decide) rfl
        · refine ⟨by simp [sizeLine_eq], RgOk.of_le (by omega) (by omega) (by omega) (by omega), [.int 1, .int 0], [.int 2], rfl, rfl, by simp, by simp [sizeLine_eq], (fun e => by cases e), fun _ => ?_⟩
          exact fin [1, 0, 2] (by decide) rfl
      · rw [if_neg (by simpa using j1), ftupleD_r Mem.set_same]
        exact fin done tn.1 tn.2
  · obtain ⟨left, done, n', rfl, hl, hp, rfl⟩ := hP
    have hlen : left.length + done.length = i := by have := hp.length_eq; rwa [List.length_append, rngI_length] at this
    rw [List.length_cons] at hl
    walk_at "rd"
    simp only [Mem.set_same]
    refine ⟨⟨a1, _, rfl, Mem.set_same⟩, a, n', _, rfl, g1 _ _, rfl, by rw [List.length_map]; omega, by rw [List.length_map]; omega, fun r n'' r0 rl => ?_⟩
    rw [w1]
    simp only [Mem.set_same, List.length_map]
    rw [List.length_map] at rl
    have hpos : (0 : Int) < ((left.length : Nat) : Int) := by omega
    have k0 := r0
    have k1 := rl
    generalize r = k at k0 k1
    have hk : k.toNat < left.length := by omega
    unfold popAtD
    refine ⟨_, k.toNat, .int left[k.toNat], Mem.set_same, by omega, by omega, seqIx k0 (by rw [List.length_map]; exact k1), ?_, ?_⟩
    · rw [List.getElem?_map, List.getElem?_eq_getElem hk]; rfl
    · rw [Mem.set_set, map_eraseIdx]
      refine ⟨by exact sized' (by omega), hN _ _ ⟨left.eraseIdx k.toNat, done ++ [left[k.toNat]], n'', by rw [List.map_append]; rfl, ?_, pop_perm hp (List.getElem?_eq_getElem hk), rfl⟩⟩
      rw [List.length_eraseIdx_of_lt hk]
      omega
  · exact ⟨rngI i, [], n, rfl, by rw [rngD_length, Int.toNat_natCast, rngI_length], by simp, by rw [Mem.set_id ha, Int.toNat_natCast, rngD0]⟩
theorem rdok_law_formed {ds m q qe} (h : sp_law_formed ds m q qe) : rd_law_formed (fun cls _ m => qe cls m) (defEnds q) (startD N_law_formed ds) m := by
  obtain ⟨d, e0, many, M, e1, ok, hq⟩ := sp1_at h
  clear h
  subst e0 e1
  show rd_law_formed _ (defEnds q) [some (machD M), none, none, none] m
  unfold rd_law_formed machD
  walk_at "rf"
  refine comp_none trivial ?_ _ fun d hd K hK => ?_
  · intro a ha
    have g := Mem.set_same (m := m) (a := a) (o := .lst [])
    rw [itemsL_r g]
    dsimp only
    refine ⟨⟨[], rfl, by decide +kernel⟩, ?_⟩
    walk_at "rf"
    unfold rd_law_formed_1
    walk_at "rf"
    refine for_inv (fun items ρ M' => m.le M' ∧ (∀ d ∈ items, ∃ r ∈ M, d = roomD r) ∧ ∃ x1 x2 x3, ρ = [some (machD M), x1, x2, x3]) (fun _ _ _ _ => trivial) (fun ρ M' hP => ?_) (fun d rr ρ M' hP N hN => ?_) _ _ _ ⟨Mem.le_set ha, fun d hd => ?_, _, _, _, rfl⟩
    · obtain ⟨l, _, x1, x2, x3, rfl⟩ := hP
      unfold rd_law_formed_2
      walk_at "rf"
      exact defEnds_le l hq
    · obtain ⟨l, hi, x1, x2, x3, rfl⟩ := hP
      obtain ⟨r, hr, rfl⟩ := hi d List.mem_cons_self
      walk_at "rf"
      unfold rd_law_formed_1f roomD
      walk_at "rf"
      refine for_inv (fun items ρ M' => m.le M' ∧ (∀ d ∈ items, ∃ ns : List Int, ns.length ≤ 1000 ∧ (d = .ftup (ns.map D.int) ∨ d = .tup (ns.map D.int))) ∧ ∃ x1 x2 x3, ρ = [some (machD M), x1, x2, x3]) (fun _ _ _ _ => trivial) (fun ρ M' hP => ?_) (fun d rr' ρ M' hP N' hN' => ?_) _ _ _ ⟨l, fun d hd => ?_, _, _, _, rfl⟩
      · obtain ⟨l, _, x1, x2, x3, rfl⟩ := hP
        exact dn_here (hN _ _ ⟨l, fun d hd => hi d (List.mem_cons_of_mem _ hd), _, _, _, rfl⟩)
      · obtain ⟨l, hi', x1, x2, x3, rfl⟩ := hP
        obtain ⟨ns, hns, hd⟩ := hi' d List.mem_cons_self
        walk_at "rf"
        unfold rd_law_formed_1f0f
        rcases hd with rfl | rfl
        · walk_at "rf"
          refine comp_none trivial (fun a ha => ?_) _ fun e he K hK => ?_
          · have et : truD (.ref a) (M'.set a (.lst [])) = some false := by unfold truD; dsimp only; rw [Mem.set_same]; rfl
            rw [et]
            exact dn_le (Mem.le_set ha) (hN' _ _ ⟨l, fun d hd => hi' d (List.mem_cons_of_mem _ hd), _, _, _, rfl⟩)
          · obtain ⟨n, _, rfl⟩ := List.mem_map.mp he
            walk_at "rf"
            exact hK _
        · walk_at "rf"
          refine comp_none trivial (fun a ha => ?_) _ fun e he K hK => ?_
          · have et : truD (.ref a) (M'.set a (.lst [])) = some false := by unfold truD; dsimp only; rw [Mem.set_same]; rfl
            rw [et]
            exact dn_le (Mem.le_set ha) (hN' _ _ ⟨l, fun d hd => hi' d (List.mem_cons_of_mem _ hd), _, _, _, rfl⟩)
          · obtain ⟨n, _, rfl⟩ := List.mem_map.mp he
            walk_at "rf"
            exact hK _
      · simp only [List.mem_cons, List.not_mem_nil, or_false] at hd
        have rk := ok.room r hr
        have := ok.four
        rcases hd with rfl | rfl
        · exact ⟨r.1, by rw [rk.len1]; omega, .inl rfl⟩
        · exact ⟨r.2, by rw [rk.len2]; omega, .inr rfl⟩
    · obtain ⟨r, hr, e⟩ := List.mem_map.mp hd
      exact ⟨r, hr, e.symm⟩
  · obtain ⟨r, hr, rfl⟩ := List.mem_map.mp hd
    unfold roomD
    walk_at "rf"
    exact hK _
theorem rdok_again (P_come_again : Addr) {ds m q qe} (h : (sp_again P_come_again) ds m q qe) : rd_again P_come_again (fun cls _ m => qe cls m) (defEnds q) (startD N_again ds) m := by
  obtain ⟨d, e0, many, Ms, U, hs, ok, hne, hP, hq⟩ := sp1_at h
  clear h
  subst e0
  show rd_again _ _ (defEnds q) [some d, none, none] m
  unfold rd_again
  walk_at "rf"
  obtain ⟨M0, Mr, rfl⟩ := List.exists_cons_of_ne_nil hne
  have ok0 := ok.ok M0 (List.mem_cons_self ..)
  have few := ok.few
  have hlen : ∀ (K : DQ), K (.int ((M0 :: Mr).length : Nat)) m → lenD [d] m K := fun K hK => by
    rcases hs with rfl | ⟨a, rfl, ha⟩
    · rw [lenD_t, List.length_map]; exact hK
    · rw [lenD_r ha, List.length_map]; exact hK
  have hisi : ∀ (K : DQ), K (.bl true) m → isiD [d, .tup [.ty "list", .ty "tuple"]] m K := fun K hK => by
    rcases hs with rfl | ⟨a, rfl, ha⟩
    · exact hK
    · unfold isiD tyS
      dsimp only
      rw [ha]
      exact hK
  have hfirst : ∀ {M' : Mem} (K : DQ), m.le M' → K (machD M0) M' → ixD d (.int 0) M' K := fun K l hK => by
    rcases hs with rfl | ⟨a, rfl, ha⟩
    · rw [ixD_t (show atI ((M0 :: Mr).map machD) 0 = some (machD M0) from atI_nat (j := 0) rfl)]; exact hK
    · rw [ixD_r (l _ _ ha) (show atI ((M0 :: Mr).map machD) 0 = some (machD M0) from atI_nat (j := 0) rfl)]; exact hK
  refine ⟨by walk_at "sz", hisi _ ?_⟩
  walk_at "rf"
  refine hlen _ ?_
  walk_at "rf"
  rw [decide_eq_true (by rw [List.length_cons]; omega)]
  walk_at "rf"
  rw [decide_eq_true (by omega)]
  walk_at "rf"
  unfold rd_again_1
  walk_at "rf"
  refine itOf_seq hs (Mem.le_refl _) fun chk hchk => ?_
  refine comp_map (fun _ => .bl true) (hchk _ (Mem.le_refl _)) _ [] (fun d hd K hK => ?_) (by rw [List.length_map]; exact sized (by simp at few ⊢; omega)) ?_
  · obtain ⟨M, hM, rfl⟩ := List.mem_map.mp hd
    walk_at "rf"
    exact ⟨many, M, rfl, ok.ok M hM, hK⟩
  · dsimp only
    rw [List.nil_append, List.map_map, show ((fun _ => D.bl true) ∘ machD) = D.bl ∘ (fun _ => true) from rfl, ← List.map_map, boolsOf_map]
    simp only [all_true]
    walk_at "rf"
    unfold rd_again_2
    walk_at "rf"
    refine hfirst _ (Mem.le_refl _) ?_
    unfold machD
    rw [ixD_t (show atI (M0.map roomD) 0 = some (roomM M0 0) from room_atI ok0 ok0.few)]
    unfold roomM
    rw [ixD_t (at20 _ _), lenD_f, List.length_map]
    have tl : ∀ M ∈ M0 :: Mr, (tA M 0).length = many := fun M hM => (IsMach.at' (ok.ok M hM) (ok.ok M hM).few).len1
    rw [tl M0 (List.mem_cons_self ..)]
    walk_at "rf"
    unfold rd_again_3
    walk_at "rf"
    refine itOf_seq hs (Mem.le_refl _) fun chk hchk => ?_
    refine comp_none (hchk _ (Mem.le_refl _)) ?_ _ fun d hd K hK => ?_
    · intro a ha
      rw [itemsL_r Mem.set_same]
      dsimp only
      refine ⟨⟨[], rfl, by decide +kernel⟩, ?_⟩
      walk_at "rf"
      unfold rd_again_4
      walk_at "rf"
      have l := Mem.le_set (o := .lst []) ha
      refine ⟨many, M0 :: Mr, U, hs.le l, ok, l _ _ hP, fun r m' l' hr at_ => defEnds_here (hq r m' (Mem.le_trans l l') (Mem.le_none l hr) at_)⟩
    · obtain ⟨M, hM, rfl⟩ := List.mem_map.mp hd
      have okM := ok.ok M hM
      unfold machD
      walk_at "rf"
      rw [ixD_t (show atI (M.map roomD) 0 = some (roomM M 0) from room_atI okM okM.few)]
      unfold roomM
      rw [ixD_t (at20 _ _), lenD_f, List.length_map, tl M hM]
      walk_at "rd"
      simpa using hK _

/-! ### the law's going over -/
theorem rdok_law_led {ds m q qe} (h : sp_law_led ds m q qe) : rd_law_led (fun cls _ m => qe cls m) (defEnds q) (startD N_law_led ds) m := by
  obtain ⟨d, e, e0, many, Ps, Fs, li, hq⟩ := sp2_at h
  clear h
  obtain ⟨p, b, e1, e2, av, hb⟩ := li.ex
  subst e0 e1 e2
  show rd_law_led _ (defEnds q) [some (.ref p), some (.ref b), none, none, none] m
  unfold rd_law_led
  walk_at "rf"
  refine ⟨by walk_at "sz", fun r hr => ?_⟩
  unfold rd_law_led_1
  walk_at "rf"
  have hb' : (m.set r (.lst [])) b = some (.lst (Fs.map machD)) := by rw [Mem.set_ne (Mem.live_ne hb hr)]; exact hb
  refine listD_at hb' fun w hw => ?_
  obtain ⟨hw0, nwr⟩ := Mem.set_none hw
  unfold rd_law_led_2
  walk_at "rf"
  refine ⟨fun n ρ M' => ∃ (Os W : List Mach) (w : Addr) (x4 : Option D), n = 5 * (60 - Os.length) + W.length ∧ Dfs many Fs Os W ∧ LS m M' r w (.lst (Os.map machD)) W ∧ W.length ≤ 100 + 4 * Os.length ∧ ρ = [some (.ref p), some (.ref b), some (.ref r), some (.ref w), x4],
    ⟨_, [], Fs, w, _, rfl, Dfs.start, ⟨Mem.le_set_of (Mem.le_set hr) hw0, hr, hw0, nwr.symm, by rw [Mem.set_ne nwr.symm, Mem.set_same]; rfl, Mem.set_same⟩, by have := li.few; simpa using this, rfl⟩, ?_⟩
  clear hw hw0 nwr hb'
  rintro n ρ M' ⟨Os, W, w, x4, rfl, df, ls, cnt, rfl⟩
  have hin : ∀ L, Led many Fs L → L ∈ Ps.map Prod.fst := fun L l => l.closed li.fs fun L z N z' => by
    obtain ⟨⟨x, a⟩, hx, rfl⟩ := List.mem_map.mp z
    exact li.cl _ hx N z'
  have few := df.few hin
  rw [List.length_map] at few
  have few60 := av.few
  walk_at "rf"
  rw [itemsL_r ls.atw]
  dsimp only
  refine ⟨nil_machs _ W, ?_⟩
  by_cases hW : W = []
  · subst hW
    walk_at "rf"
    unfold rd_law_led_3
    walk_at "rf"
    exact defEnds_here (hq r M' Os ls.le hr ls.atr df.nd fun L => df.done L)
  · obtain ⟨V, L, rfl⟩ := last_of hW
    have ne : (((V ++ [L]).map machD).isEmpty) = false := by rw [List.map_append]; simp
    rw [ne]
    walk_at "rf"
    unfold rd_law_led_2w
    walk_at "rf"
    refine ⟨⟨w, _, rfl, ls.atw⟩, pop_machs ls.atw ?_⟩
    have ls2 := ls.setW V
    unfold rd_law_led_2w1
    walk_at "rf"
    refine inA_in ls2.atr ?_
    by_cases hL : L ∈ Os
    · rw [decide_eq_true hL]
      walk_at "rf"
      rw [List.length_append] at cnt
      refine dn_here ⟨5 * (60 - Os.length) + V.length, by rw [List.length_append]; exact Nat.add_lt_add_left (Nat.lt_succ_self _) _, Os, V, w, _, rfl, df.skip hL, ls2, by omega, rfl⟩
    · rw [decide_eq_false hL]
      walk_at "rf"
      unfold rd_law_led_2w1t
      walk_at "rf"
      have lt := df.lt hL hin
      rw [List.length_map] at lt
      refine ⟨⟨r, _, rfl, ls2.atr⟩, ?_⟩
      rw [appendD_r ls2.atr]
      refine ⟨by rw [List.length_map]; exact sized' (by omega), ?_⟩
      have ls3 := ls2.setR (.lst ((Os ++ [L]).map machD))
      rw [show Os.map machD ++ [machD L] = (Os ++ [L]).map machD by rw [List.map_append]; rfl]
      unfold rd_law_led_2w1t1
      walk_at "rf"
      have hmem := hin L (df.sw L (by simp))
      obtain ⟨c, hc⟩ := arr_mem hmem
      have hc4 := li.four _ hc
      rw [List.length_append, List.length_singleton] at cnt
      dsimp only at hc4
      refine (av.le ls3.le).get hc ?_
      refine ⟨_, _, ls3.atw, ls3.le _ _ (av.val _ hc), by rw [List.length_map, List.length_map]; exact sized (by dsimp only; omega), fun w' hw' => ?_⟩
      have nrw := Mem.live_ne ls3.atr hw'
      have w0 := Mem.le_none ls3.le hw'
      refine dn_here ⟨5 * (60 - (Os ++ [L]).length) + (V ++ behM many L).length, ?_, Os ++ [L], V ++ behM many L, w', _, rfl, df.add hL, ⟨Mem.le_set_of ls3.le w0, hr, w0, nrw, by rw [Mem.set_ne nrw]; exact ls3.atr, by rw [Mem.set_same, List.map_append]⟩, ?_, rfl⟩
      · rw [List.length_append, List.length_append, List.length_append, List.length_singleton]; omega
      · rw [List.length_append, List.length_append, List.length_singleton]; omega
theorem rdok_law_due {ds m q qe} (h : sp_law_due ds m q qe) : rd_law_due (fun cls _ m => qe cls m) (defEnds q) (startD N_law_due ds) m := by
  obtain ⟨d, e0, many, Ms, U, hs, ok, hq⟩ := sp1_at h
  clear h
  subst e0
  show rd_law_due _ (defEnds q) [some d, none, none, none, none, none] m
  unfold rd_law_due
  walk_at "rf"
  refine ⟨many, Ms, U, hs, ok, fun p M1 Ps l1 hp atp av hPs => ?_⟩
  have aok := ArrOk.of ok hPs
  unfold rd_law_due_1 iKeysT
  walk_at "rf"
  refine ⟨p, _, rfl, atp, fun es ep => ?_⟩
  have av2 := av.walked atp es ep
  have l2 := Mem.le_set_of (o := .dR (kvT (arrD Ps)) es ep ((arrD Ps).map Prod.fst)) l1 hp
  refine comp_filterL (homeB many) (fun M l => l _ _ Mem.set_same) _ _ (fun d hd M l K hK => ?_) (fun d hd M l K hK => ?_) (by rw [List.length_map, List.length_map]; exact sized (by have := av.few; simp; omega)) (fun M l => ?_) _ (Mem.le_refl _)
  · obtain ⟨x, hx, rfl⟩ := List.mem_map.mp hd
    obtain ⟨y, hy, rfl⟩ := List.mem_map.mp hx
    have avM := av2.le l
    walk_at "rf"
    refine avM.get (a := y.2) hy ?_
    refine ⟨many, Ps, behM many y.1, aok.ledIn avM hy, fun r M' Os l' hr atr nd hO => inA_in atr ?_⟩
    have : decide (y.1 ∈ Os) = homeB many (machD y.1) := by
      rw [Bool.eq_iff_iff, decide_eq_true_iff, homeB_is]; exact hO y.1
    dsimp only
    rw [this]
    exact hK M' (Mem.le_trans l l')
  · walk_at "rf"
    exact hK
  · rw [List.nil_append, home_items]
    intro b hb
    unfold rd_law_due_2
    walk_at "rf"
    have l3 := Mem.le_set (o := .lst ((homeL many Ps).map machD)) hb
    have avM := (av2.le l).le l3
    refine ⟨many, Ps, homeL many Ps, aok.homeIn avM Mem.set_same, fun r M' Os l' hr atr nd hO => ?_⟩
    have lm : m.le M' := Mem.le_trans l2 (Mem.le_trans l (Mem.le_trans l3 l'))
    have dO : ∀ L, L ∈ Os ↔ Due many Ms L := fun L => (hO L).trans (due_is hPs L)
    have few : Os.length ≤ 60 := by
      have := nd_len nd (ys := U) fun L z => ok.u L ((dO L).mp z).led
      have := ok.small
      omega
    dsimp only
    rw [itOf_r atr]
    refine comp_map (fun d => .tup [(match d with | .tup xs => .int (xs.length : Nat) | _ => .non), d]) atr _ [] (fun d hd K hK => ?_) (by rw [List.length_map]; exact sized (by simp; omega)) ?_
    · obtain ⟨L, hL, rfl⟩ := List.mem_map.mp hd
      have hK' : K (.tup [.int (((L.map roomD).length : Nat)), machD L]) M' := hK
      walk_at "rf"
      show lenG [.tup (L.map roomD)] _ _
      rw [lenG_t]
      exact ⟨by walk_at "sz", hK'⟩
    · rw [List.nil_append, List.map_map]
      intro c hc
      unfold rd_law_due_3 iNew
      walk_at "rf"
      have ec : (Os.map ((fun d => D.tup [(match d with | .tup xs => .int (xs.length : Nat) | _ => .non), d]) ∘ machD)) = Os.map fun L => .tup [natD L.length, machD L] := by
        refine List.map_congr_left fun L _ => ?_
        show D.tup [.int ((L.map roomD).length : Nat), machD L] = _
        rw [List.length_map]
      rw [ec]
      refine ⟨c, _, Os.map sortK, rfl, Mem.set_same, by rw [List.length_map]; omega, pyYs_machs _ Os, sortK_all, sortK_able, sortK_deep, ?_⟩
      rw [srt_machs, ← dueL_of nd dO]
      have lc := Mem.le_set (o := .lst (Os.map fun L => .tup [natD L.length, machD L])) hc
      have fewD : (dueL many Ms).length ≤ 60 := by rw [dueL_of nd dO, List.length_mergeSort]; exact few
      refine comp_inv (fun items acc m' => ∃ dn rest, dueL many Ms = dn ++ rest ∧ items = rest.map (fun L => .tup [natD L.length, machD L]) ∧ acc = dn.map machD ∧ m' = M'.set c (.lst (Os.map fun L => .tup [natD L.length, machD L]))) (fun _ _ _ _ => trivial) (fun acc m' hP => ?_) (fun d r acc m' hP N hN => ?_) _ _ _ ⟨[], _, rfl, rfl, rfl, rfl⟩
      · obtain ⟨dn, rest, e1, e2, rfl, rfl⟩ := hP
        cases rest with
        | cons _ _ => cases e2
        | nil =>
          rw [List.append_nil] at e1
          subst e1
          intro a ha
          have lma := Mem.le_trans lm lc
          have a0 := Mem.le_none lma ha
          exact defEnds_here (hq a _ (Mem.le_set_of lma a0) a0 Mem.set_same)
      · obtain ⟨dn, rest, e1, e2, rfl, rfl⟩ := hP
        cases rest with
        | nil => cases e2
        | cons L rest =>
          rw [List.map_cons] at e2
          obtain ⟨rfl, rfl⟩ := List.cons.inj e2
          have hl : dn.length ≤ 60 := by rw [e1, List.length_append] at fewD; omega
          walk_at "rf"
          refine ⟨rfl, ?_⟩
          walk_at "rf"
          refine ⟨sized' (by omega), hN _ _ ⟨dn ++ [L], rest, by rw [e1, List.append_assoc]; rfl, rfl, by rw [List.map_append]; rfl, rfl⟩⟩

theorem addAll_all {e : Nat → Nat → Bool} {P : Nat → Prop} : ∀ {tos met : List Nat}, (∀ x ∈ met, P x) → (∀ x ∈ tos, P x) → ∀ x ∈ addAll e met tos, P x
  | [], _, h, _ => h
  | t :: tos, met, h, g => by
    have h1 : ∀ x ∈ addR e met t, P x := by
      unfold addR
      split
      · exact h
      · intro x hx
        rcases List.mem_append.mp hx with z | z
        · exact h x z
        · rw [List.mem_singleton.mp z]; exact g t List.mem_cons_self
    have := addAll_all (e := e) (tos := tos) h1 fun x hx => g x (List.mem_cons_of_mem _ hx)
    exact this
theorem bfsN_all {M : Mach} {e : Nat → Nat → Bool} {r : Nat} {P : Nat → Prop} (h0 : P r) (hs : ∀ x, P x → ∀ to ∈ rA M x, P to) : ∀ n, (∀ j, j < n → j < (bfsN M e r j).length) → ∀ x ∈ bfsN M e r n, P x
  | 0, _ => fun x hx => by rw [List.mem_singleton.mp hx]; exact h0
  | n + 1, h => by
    have ih := bfsN_all (e := e) h0 hs n fun j hj => h j (by omega)
    have hn := h n (by omega)
    exact addAll_all ih (hs _ (ih _ (by rw [List.getD_eq_getElem?_getD, List.getElem?_eq_getElem hn]; exact List.getElem_mem _)))
theorem IsMet.all {M : Mach} {e : Nat → Nat → Bool} {r : Nat} {met : List Nat} {P : Nat → Prop} (h : IsMet M e r met) (h0 : P r) (hs : ∀ x, P x → ∀ to ∈ rA M x, P to) : ∀ x ∈ met, P x := by
  obtain ⟨n, rfl, _, h2⟩ := h
  exact bfsN_all h0 hs n h2
/-- as many, by a likeness -/
theorem rngD_succ (j n : Nat) : rngD ((j : Nat) : Int) (n + 1) = .int ((j : Nat) : Int) :: rngD ((j + 1 : Nat) : Int) n := by
  unfold rngD
  rw [List.range_succ_eq_map, List.map_cons, List.map_map]
  simp only [Int.natCast_zero, Int.add_zero, List.cons.injEq, true_and]
  refine List.map_congr_left fun k _ => ?_
  show D.int _ = D.int _
  congr 1
  show ((j : Nat) : Int) + ((k + 1 : Nat) : Int) = ((j + 1 : Nat) : Int) + (k : Nat)
  omega

/-! ### draws: where the state stands -/
structure DrS (m M' : Mem) (a : Addr) : Prop where
  ex : ∃ n : Int, (m.set a (.lst [.int n])).le M'
section
variable {m M' : Mem} {a c : Addr} {o : MO}
theorem DrS.at_ (h : DrS m M' a) : ∃ n : Int, M' a = some (.lst [.int n]) := let ⟨n, l⟩ := h.ex; ⟨n, l _ _ Mem.set_same⟩
theorem DrS.draw (h : DrS m M' a) (n : Int) : DrS m (M'.set a (.lst [.int n])) a := by
  obtain ⟨n0, l⟩ := h.ex
  refine ⟨n, fun b o e => ?_⟩
  by_cases hb : b = a
  · subst hb; rw [Mem.set_same] at e ⊢; exact e
  · rw [Mem.set_ne hb] at e ⊢
    exact l b o (by rw [Mem.set_ne hb]; exact e)
theorem DrS.upd (h : DrS m M' a) (hc : m c = none) (ne : c ≠ a) : DrS m (M'.set c o) a := by
  obtain ⟨n0, l⟩ := h.ex
  exact ⟨n0, Mem.le_set_of l (by rw [Mem.set_ne ne]; exact hc)⟩
theorem DrS.free (h : DrS m M' a) (hc : M' c = none) : m c = none ∧ c ≠ a := by
  obtain ⟨n0, l⟩ := h.ex
  obtain ⟨h1, h2⟩ := Mem.set_none (Mem.le_none l hc)
  exact ⟨h1, h2⟩
theorem DrS.new (h : DrS m M' a) (hc : M' c = none) : DrS m (M'.set c o) a := h.upd (h.free hc).1 (h.free hc).2
theorem DrS.start {n : Int} (h : m a = some (.lst [.int n])) : DrS m m a := ⟨n, by rw [Mem.set_id h]; exact Mem.le_refl _⟩
end
section
variable {m M' : Mem} {a b c : Addr} {many size : Nat} {onw : Bool} {Ms : Mach} {ns ts : List Int} {we : DWX} {E : DEnds} {x7 x9 : Option D} {k : Nat}
theorem lm_3 (ds : DrS m M' a) (b0 : m b = none) (nba : b ≠ a) (hb : M' b = some (.lst (Ms.map roomD))) (hc : M' c = some (.lst (ts.map D.int))) (few : Ms.length ≤ 100) (hE : ∀ M'', DrS m M'' a → M'' b = some (.lst ((Ms ++ [(ns, ts)]).map roomD)) → E.nx [some (.ref a), some (natD many), some (.bl onw), some (natD size), some (.ref b), some (natD k), some (.ftup (ns.map D.int)), x7, some (.ref c), x9] M'') :
    rd_law_machine_3f3 we E [some (.ref a), some (natD many), some (.bl onw), some (natD size), some (.ref b), some (natD k), some (.ftup (ns.map D.int)), x7, some (.ref c), x9] M' := by
  unfold rd_law_machine_3f3
  walk_at "rd"
  refine ⟨⟨b, _, rfl, hb⟩, ?_⟩
  rw [hc]
  dsimp only
  refine ⟨by walk_at "sz", ?_⟩
  rw [appendD_r hb]
  refine ⟨by rw [List.length_map]; exact sized' (by omega), hE _ (ds.upd b0 nba) ?_⟩
  rw [Mem.set_same, List.map_append]
  rfl
theorem lm_2 (ds : DrS m M' a) (b0 : m b = none) (nba : b ≠ a) (hb : M' b = some (.lst (Ms.map roomD))) (hc : M' c = some (.lst (ts.map D.int))) (few : Ms.length ≤ 100) (ts4 : ts.length ≤ 4) (hk : k < size) (low : ∀ x ∈ ts, 0 ≤ x ∧ x < size)
    (hE : ∀ M'' ts' c' x9', ts'.length = ts.length → (∀ x ∈ ts', 0 ≤ x ∧ x < (size : Int)) → DrS m M'' a → M'' b = some (.lst ((Ms ++ [(ns, ts')]).map roomD)) → E.nx [some (.ref a), some (natD many), some (.bl onw), some (natD size), some (.ref b), some (natD k), some (.ftup (ns.map D.int)), x7, some (.ref c'), x9'] M'') :
    rd_law_machine_3f2 we E [some (.ref a), some (natD many), some (.bl onw), some (natD size), some (.ref b), some (natD k), some (.ftup (ns.map D.int)), x7, some (.ref c), x9] M' := by
  unfold rd_law_machine_3f2
  walk_at "rd"
  cases onw with
  | false =>
    simp only [Bool.false_eq_true, if_false]
    exact lm_3 ds b0 nba hb hc few fun M'' d' g => hE M'' ts c x9 rfl low d' g
  | true =>
    simp only [if_true]
    rw [hc]
    dsimp only
    refine comp_map (fun d => match d with | .int j => .int (if j > (k : Int) then j else (k : Int)) | _ => .non) hc _ [] (fun d hd K hK => ?_) (by rw [List.length_map]; exact sized (by simp; omega)) ?_
    · obtain ⟨j, hj, rfl⟩ := List.mem_map.mp hd
      walk_at "rd"
      exact hK
    · rw [List.nil_append, List.map_map]
      intro c' hc'
      have hcb := Mem.live_ne hb hc'
      refine lm_3 (ts := ts.map fun j => if j > (k : Int) then j else (k : Int)) (ds.new hc') b0 nba (by rw [Mem.set_ne hcb]; exact hb) (by rw [Mem.set_same, List.map_map]; rfl) few fun M'' d' g => hE M'' _ c' x9 (by rw [List.length_map]) (fun x hx => ?_) d' g
      obtain ⟨j, hj, rfl⟩ := List.mem_map.mp hx
      have := low j hj
      split <;> omega
end
theorem rdok_law_machine {ds m q qe} (h : sp_law_machine ds m q qe) : rd_law_machine (fun cls _ m => qe cls m) (defEnds q) (startD N_law_machine ds) m := by
  obtain ⟨d, k, e0, a, n0, many, e1, ha, e2, two, three, hq⟩ := sp2_at h
  clear h
  subst e0 e1 e2
  have ds0 := DrS.start ha
  show rd_law_machine _ (defEnds q) [some (.ref a), some (natD many), none, none, none, none, none, none, none, none] m
  unfold rd_law_machine
  walk_at "rd"
  refine ⟨a, n0, 2, rfl, ha, rfl, by decide, by decide, fun r n1 r0 r1 => ?_⟩
  have ds1 := ds0.draw n1
  unfold rd_law_machine_1
  walk_at "rd"
  refine ⟨a, n1, 6, rfl, Mem.set_same, rfl, by decide, by decide, fun s n2 s0 s1 => ?_⟩
  have ds2 := ds1.draw n2
  obtain ⟨size, rfl⟩ : ∃ z : Nat, s = ((z : Nat) : Int) := ⟨s.toNat, by omega⟩
  unfold rd_law_machine_2
  walk_at "rd"
  refine ⟨by walk_at "sz", fun b hb => ?_⟩
  obtain ⟨b0, nba⟩ := ds2.free hb
  have ds3 := ds2.new (o := .lst []) hb
  generalize hM0 : ((m.set a (.lst [.int n1])).set a (.lst [.int n2])).set b (.lst []) = M0 at ds3
  have atb : M0 b = some (.lst []) := by rw [← hM0]; exact Mem.set_same
  clear ds1 ds2 hb hM0
  unfold rd_law_machine_3
  walk_at "rd"
  generalize (r == 0) = onw
  refine ⟨by omega, by omega, ?_⟩
  refine for_inv (fun items ρ M' => ∃ (Ms : Mach) (x5 x6 x7 x8 x9 : Option D), items = rngD Ms.length (size + 1 - Ms.length) ∧ Ms.length ≤ size + 1 ∧ (∀ x ∈ Ms, IsRoom many (size + 1) x) ∧ DrS m M' a ∧ M' b = some (.lst (Ms.map roomD)) ∧
      ρ = [some (.ref a), some (natD many), some (.bl onw), some (natD (size + 1)), some (.ref b), x5, x6, x7, x8, x9]) (fun _ _ _ _ => trivial) (fun ρ M' hP => ?_) (fun d rr ρ M' hP N hN => ?_) _ _ _ ?_
  · obtain ⟨Ms, x5, x6, x7, x8, x9, e, hl, hr, ds, hb, rfl⟩ := hP
    have el : Ms.length = size + 1 := by
      rcases Nat.lt_or_ge Ms.length (size + 1) with z | z
      · rw [show size + 1 - Ms.length = (size - Ms.length) + 1 by omega, rngD_succ] at e
        cases e
      · omega
    unfold rd_law_machine_4
    walk_at "rd"
    rw [hb]
    dsimp only
    obtain ⟨n, l⟩ := ds.ex
    refine defEnds_le l (hq Ms n ⟨by omega, by omega, two, by omega, fun x hx => by rw [el]; exact hr x hx⟩ (by omega))
  · obtain ⟨Ms, x5, x6, x7, x8, x9, e, hl, hr, ds, hb, rfl⟩ := hP
    have hlt : Ms.length < size + 1 := by
      rcases Nat.lt_or_ge Ms.length (size + 1) with z | z
      · exact z
      · rw [show size + 1 - Ms.length = 0 by omega] at e
        cases e
    rw [show size + 1 - Ms.length = (size - Ms.length) + 1 by omega, rngD_succ] at e
    obtain ⟨rfl, rfl⟩ := List.cons.inj e
    walk_at "rd"
    unfold rd_law_machine_3f
    walk_at "rd"
    obtain ⟨n3, hn3⟩ := ds.at_
    refine ⟨a, n3, 4, rfl, hn3, rfl, by decide, by decide, fun j n4 j0 j1 => ?_⟩
    have ds4 := ds.draw n4
    refine ⟨a, n4, many, j, rfl, Mem.set_same, rfl, two, three, rfl, fun ns n5 t1 t2 => ?_⟩
    have ds5 := ds4.draw n5
    have hb5 : ((M'.set a (.lst [.int n4])).set a (.lst [.int n5])) b = some (.lst (Ms.map roomD)) := by rw [Mem.set_ne nba, Mem.set_ne nba]; exact hb
    generalize (M'.set a (.lst [.int n4])).set a (.lst [.int n5]) = M5 at ds5 hb5
    unfold rd_law_machine_3f1
    walk_at "rd"
    refine ⟨by omega, by omega, ?_⟩
    refine comp_inv (fun items acc M' => ∃ ts : List Int, acc = ts.map D.int ∧ ts.length + items.length = many ∧ (∀ x ∈ ts, 0 ≤ x ∧ x < ((size + 1 : Nat) : Int)) ∧ DrS m M' a ∧ M' b = some (.lst (Ms.map roomD))) (fun _ _ _ _ => trivial) (fun acc M' hP => ?_) (fun d r acc M' hP N' hN' => ?_) _ _ _ ⟨[], rfl, by rw [rngD_length]; simp, (fun _ h => nomatch h), ds5, hb5⟩
    · obtain ⟨ts, rfl, hl', low, ds6, hb6⟩ := hP
      intro c hc
      have hcb := Mem.live_ne hb6 hc
      refine lm_2 (ds6.new hc) b0 nba (by rw [Mem.set_ne hcb]; exact hb6) Mem.set_same (by omega) (by simp at hl'; omega) hlt low fun M'' ts' c' x9' e1 low' ds' hb' => ?_
      refine dn_here (hN _ _ ⟨Ms ++ [(ns, ts')], _, _, _, _, _, ?_, by rw [List.length_append, List.length_singleton]; omega, fun x hx => ?_, ds', hb', rfl⟩)
      · rw [List.length_append, List.length_singleton, show size + 1 - (Ms.length + 1) = size - Ms.length by omega]
      · rcases List.mem_append.mp hx with hx | hx
        · exact hr x hx
        · rw [List.mem_singleton.mp hx]
          exact ⟨t1, t2, by rw [e1]; simpa using hl', low'⟩
    · obtain ⟨ts, rfl, hl', low, ds6, hb6⟩ := hP
      rw [List.length_cons] at hl'
      walk_at "rd"
      obtain ⟨n6, hn6⟩ := ds6.at_
      refine ⟨a, n6, _, rfl, hn6, rfl, by omega, by omega, fun x n7 x0 x1 => ⟨by rw [List.length_map]; exact sized' (by omega), hN' _ _ ⟨ts ++ [x], by rw [List.map_append]; rfl, by rw [List.length_append, List.length_singleton]; omega, fun y hy => ?_, ds6.draw n7, by rw [Mem.set_ne nba]; exact hb6⟩⟩⟩
      rcases List.mem_append.mp hy with hy | hy
      · exact low y hy
      · rw [List.mem_singleton.mp hy]; exact ⟨x0, x1⟩
  · refine ⟨[], none, none, none, none, none, ?_, Nat.zero_le _, (fun _ h => nomatch h), ds3, atb, ?_⟩
    · rw [show (1 + (size : Int)).toNat = size + 1 by omega]; rfl
    · rw [show (1 + (size : Int)) = ((size + 1 : Nat) : Int) by omega]
/-! ### the law's arrows -/
theorem met_come {k : Nat} {M : Mach} {met : List Nat} (ok : IsMach k M) (h : IsMet M eqB 0 met) (x : Nat) : x ∈ met ↔ Come k M x := by
  constructor
  · intro hx
    refine h.all (P := Come k M) .base (fun x hx to hto => ?_) x hx
    have hl := hx.lt ok
    obtain ⟨i, hi, e⟩ := List.mem_iff_getElem.mp hto
    have hk : i < k := by rw [← ok.cl.len x hl]; exact hi
    have := hx.step hk
    unfold rg at this
    rw [List.getD_eq_getElem?_getD, List.getElem?_eq_getElem hi, e] at this
    exact this
  · intro hx
    induction hx with
    | base => obtain ⟨t, ht⟩ := h.first; rw [ht]; exact List.mem_cons_self
    | @step r l hr hl ih =>
      obtain ⟨j, hj, e⟩ := List.mem_iff_getElem.mp ih
      have := h.closed' eqB_rf hj (to := rg M r l) (by
        rw [List.getD_eq_getElem?_getD, List.getElem?_eq_getElem hj, Option.getD_some, e]
        exact rg_mem ok.cl (hr.lt ok) hl)
      obtain ⟨y, hy, e⟩ := List.any_eq_true.mp this
      have e' : y = rg M r l := of_decide_eq_true e
      rw [← e']; exact hy
theorem mach_rooms {k : Nat} {m : Mem} {M : Mach} (ok : IsMach k M) : RoomsAt m (machD M) M :=
  ⟨M.map roomD, .inl rfl, fun i hi => ⟨_, room_is ok hi, .inl rfl⟩⟩
/-- what the law's arrows are so far -/
structure AS (k : Nat) (m M' : Mem) (p : Addr) (Ps : List (Mach × Addr)) : Prop where
  le : m.le M'
  p0 : m p = none
  atp : M' p = some (.dT (arrD Ps))
  val : ∀ x ∈ Ps, M' x.2 = some (.lst ((behM k x.1).map machD)) ∧ x.2 ≠ p
  nd : (Ps.map Prod.fst).Nodup
theorem AS.arr {k : Nat} {m M' : Mem} {p : Addr} {Ps : List (Mach × Addr)} (h : AS k m M' p Ps) (few : Ps.length ≤ 60) : ArrV k M' p Ps := ⟨.inl h.atp, fun x hx => (h.val x hx).1, h.nd, few⟩
theorem AS.grow {k : Nat} {m M' M'' : Mem} {p : Addr} {Ps : List (Mach × Addr)} (h : AS k m M' p Ps) (l : M'.le M'') : AS k m M'' p Ps := ⟨Mem.le_trans h.le l, h.p0, l _ _ h.atp, fun x hx => ⟨l _ _ (h.val x hx).1, (h.val x hx).2⟩, h.nd⟩
theorem rdok_law_arrows {ds m q qe} (h : sp_law_arrows ds m q qe) : rd_law_arrows (fun cls _ m => qe cls m) (defEnds q) (startD N_law_arrows ds) m := by
  obtain ⟨d, e0, many, Ms, U, hs, ok, hq⟩ := sp1_at h
  clear h
  subst e0
  show rd_law_arrows _ (defEnds q) [some d, none, none, none, none, none] m
  unfold rd_law_arrows dDictT
  walk_at "rf"
  intro p hp
  unfold rd_law_arrows_1
  walk_at "rf"
  have sm := ok.small
  refine itOf_seq hs (Mem.le_set hp) fun chk hchk => ?_
  refine for_inv (fun items ρ M' => ∃ (dn rest : List Mach) (Ps : List (Mach × Addr)) (x2 x3 x4 x5 : Option D), Ms = dn ++ rest ∧ items = rest.map machD ∧ AS many m M' p Ps ∧ (∀ L, L ∈ Ps.map Prod.fst ↔ ∃ M ∈ dn, ∃ r, Come many M r ∧ L = lea many M r) ∧
      ρ = [some d, some (.ref p), x2, x3, x4, x5]) (fun _ _ M' ⟨_, _, _, _, _, _, _, _, _, as, _⟩ => hchk M' as.le) (fun ρ M' hP => ?_) (fun dd rr ρ M' hP N hNx => ?_) _ _ _ ?_
  · obtain ⟨dn, rest, Ps, x2, x3, x4, x5, e1, e2, as, hk, rfl⟩ := hP
    cases rest with
    | cons _ _ => cases e2
    | nil =>
      rw [List.append_nil] at e1
      subst e1
      unfold rd_law_arrows_2
      walk_at "rf"
      have hm : ∀ L, L ∈ Ps.map Prod.fst ↔ Led many (leasts many Ms) L := fun L => (hk L).trans ⟨fun ⟨M, hM, r, hr, e⟩ => by
        rw [e]; exact hr.led (ok.ok M hM) (List.mem_map.mpr ⟨M, hM, rfl⟩), fun l => led_come ok.ok l⟩
      have few := nd_len as.nd (ys := U) fun L z => ok.u L ((hm L).mp z)
      rw [List.length_map] at few
      exact defEnds_here (hq p M' Ps as.le hp as.atp (as.arr (by omega)) hm)
  · obtain ⟨dn, rest, Ps, x2, x3, x4, x5, e1, e2, as, hk, rfl⟩ := hP
    cases rest with
    | nil => cases e2
    | cons M rest =>
      rw [List.map_cons] at e2
      obtain ⟨rfl, rfl⟩ := List.cons.inj e2
      have hM : M ∈ Ms := by rw [e1]; simp
      have okM := ok.ok M hM
      walk_at "rf"
      unfold rd_law_arrows_1f
      walk_at "rf"
      refine ⟨many, M, 0, mach_rooms okM, okM.cl, okM.four, okM.most, rfl, okM.few, fun b met hb him => ?_⟩
      dsimp only
      rw [itOf_r Mem.set_same]
      have as2 := as.grow (Mem.le_set (o := .lst (met.map natD)) hb)
      have hbv : (M'.set b (.lst (met.map natD))) b = some (.lst (met.map natD)) := Mem.set_same
      have b0 := Mem.le_none as.le hb
      have nbp : b ≠ p := (Mem.live_ne as.atp hb).symm
      refine for_inv (fun items ρ M'' => ∃ (dn' rest' : List Nat) (Ps : List (Mach × Addr)) (x3 x4 x5 : Option D), met = dn' ++ rest' ∧ items = rest'.map natD ∧ AS many m M'' p Ps ∧ M'' b = some (.lst (met.map natD)) ∧ (∀ L, L ∈ Ps.map Prod.fst ↔ (∃ M ∈ dn, ∃ r, Come many M r ∧ L = lea many M r) ∨ ∃ r ∈ dn', L = lea many M r) ∧
        ρ = [some d, some (.ref p), some (machD M), x3, x4, x5]) (fun _ _ M' ⟨_, _, _, _, _, _, _, _, _, g, _⟩ => g) (fun ρ M'' hP => ?_) (fun dd rr ρ M'' hP N' hN' => ?_) _ _ _ ⟨[], met, Ps, _, _, _, rfl, rfl, as2, hbv, fun L => by rw [hk L]; simp, rfl⟩
      · obtain ⟨dn', rest', Ps, x3, x4, x5, e3, e4, as3, g, hk3, rfl⟩ := hP
        cases rest' with
        | cons _ _ => cases e4
        | nil =>
          rw [List.append_nil] at e3
          subst e3
          refine dn_here (hNx _ _ ⟨dn ++ [M], rest, Ps, _, _, _, _, by rw [e1, List.append_assoc]; rfl, rfl, as3, fun L => ?_, rfl⟩)
          rw [hk3 L]
          constructor
          · rintro (⟨M0, h0, h1⟩ | ⟨r, hr, e⟩)
            · exact ⟨M0, List.mem_append_left _ h0, h1⟩
            · exact ⟨M, by simp, r, (met_come okM him r).mp hr, e⟩
          · rintro ⟨M0, h0, r, hr, e⟩
            rcases List.mem_append.mp h0 with z | z
            · exact .inl ⟨M0, z, r, hr, e⟩
            · rw [List.mem_singleton.mp z] at hr e
              exact .inr ⟨r, (met_come okM him r).mpr hr, e⟩
      · obtain ⟨dn', rest', Ps, x3, x4, x5, e3, e4, as3, g, hk3, rfl⟩ := hP
        cases rest' with
        | nil => cases e4
        | cons r rest' =>
          rw [List.map_cons] at e4
          obtain ⟨rfl, rfl⟩ := List.cons.inj e4
          have hrm : Come many M r := (met_come okM him r).mp (by rw [e3]; simp)
          have hr := hrm.lt okM
          have il : IsLea many (lea many M r) := .of okM hr
          walk_at "rf"
          unfold rd_law_arrows_1f0f
          walk_at "rf"
          refine ⟨many, M, r, rfl, rfl, hr, okM, ?_⟩
          unfold rd_law_arrows_1f0f1
          walk_at "rf"
          have key : ∀ L, (L ∈ Ps.map Prod.fst ∨ L = lea many M r) ↔ (∃ M ∈ dn, ∃ r, Come many M r ∧ L = lea many M r) ∨ ∃ s ∈ dn' ++ [r], L = lea many M s := fun L => by
            rw [hk3 L]
            constructor
            · rintro ((z | ⟨s, hs, e⟩) | e)
              · exact .inl z
              · exact .inr ⟨s, List.mem_append_left _ hs, e⟩
              · exact .inr ⟨r, by simp, e⟩
            · rintro (z | ⟨s, hs, e⟩)
              · exact .inl (.inl z)
              · rcases List.mem_append.mp hs with w | w
                · exact .inl (.inr ⟨s, w, e⟩)
                · rw [List.mem_singleton.mp w] at e; exact .inr e
          have hin : ∀ L, L ∈ Ps.map Prod.fst → L ∈ U := fun L z => by
            rcases (hk3 L).mp z with ⟨M0, h0, s, hs, e⟩ | ⟨s, hs, e⟩
            · have h0' : M0 ∈ Ms := by rw [e1]; exact List.mem_append_left _ h0
              rw [e]; exact ok.u _ (hs.led (ok.ok M0 h0') (List.mem_map.mpr ⟨M0, h0', rfl⟩))
            · rw [e]; exact ok.u _ (((met_come okM him s).mp (by rw [e3]; exact List.mem_append_left _ hs)).led okM (List.mem_map.mpr ⟨M, hM, rfl⟩))
          have few := nd_len as3.nd hin
          rw [List.length_map] at few
          refine in_arr as3.atp as3.nd ?_
          by_cases hL : lea many M r ∈ Ps.map Prod.fst
          · rw [decide_eq_true hL]
            walk_at "rf"
            refine dn_here (hN' _ _ ⟨dn' ++ [r], rest', Ps, _, _, _, by rw [e3, List.append_assoc]; rfl, rfl, as3, g, fun L => ?_, rfl⟩)
            rw [← key L]
            exact ⟨.inl, fun z => z.elim id fun e => by rw [e]; exact hL⟩
          · rw [decide_eq_false hL]
            walk_at "rf"
            unfold machD
            rw [ixG_t (show atI ((lea many M r).map roomD) 0 = some (roomM (lea many M r) 0) from room_atI il.mach il.few)]
            conv in (roomM _ _) => unfold roomM
            rw [ixG_t (at21 _ _)]
            walk_at "rf"
            refine comp_nat (fun s => machD (lea many (lea many M r) s)) trivial _ _ (fun s hs K hK => ?_) (by rw [il.mach.cl.len 0 il.few]; exact sized (by simp; have := ok.four; omega)) ?_
            · walk_at "rf"
              exact ⟨many, lea many M r, s, rfl, rfl, il.mach.cl.low 0 il.few s hs, il.mach, hK⟩
            · rw [List.nil_append]
              intro c hc
              rw [show (List.map (fun s => machD (lea many (lea many M r) s)) (rA (lea many M r) 0)) = (behM many (lea many M r)).map machD by unfold behM; rw [List.map_map]; rfl]
              have ncp := Mem.live_ne as3.atp hc
              have ncb := Mem.live_ne g hc
              refine set_arr (L := lea many M r) (by rw [Mem.set_ne ncp]; exact as3.atp) (by omega) hL ?_
              have c0 := Mem.le_none as3.le hc
              refine dn_here (hN' _ _ ⟨dn' ++ [r], rest', Ps ++ [(lea many M r, c)], _, _, _, by rw [e3, List.append_assoc]; rfl, rfl, ⟨Mem.le_set_of (Mem.le_set_of as3.le c0) hp, hp, Mem.set_same, fun x hx => ?_, ?_⟩, by rw [Mem.set_ne nbp, Mem.set_ne ncb]; exact g, fun L => ?_, rfl⟩)
              · rcases List.mem_append.mp hx with hx | hx
                · obtain ⟨v1, v2⟩ := as3.val x hx
                  exact ⟨by rw [Mem.set_ne v2, Mem.set_ne (Mem.live_ne v1 hc)]; exact v1, v2⟩
                · rw [List.mem_singleton.mp hx]
                  exact ⟨by rw [Mem.set_ne ncp.symm, Mem.set_same], ncp.symm⟩
              · rw [List.map_append, List.nodup_append]
                refine ⟨as3.nd, by simp, fun x hx y hy => ?_⟩
                rw [List.map_cons, List.map_nil, List.mem_singleton] at hy
                intro z
                have z' : x = lea many M r := z.trans hy
                rw [z'] at hx
                exact hL hx
              · rw [← key L, List.map_append, List.mem_append, List.map_cons, List.map_nil, List.mem_singleton]
  · exact ⟨[], Ms, [], _, _, _, _, rfl, rfl, ⟨Mem.le_set hp, hp, Mem.set_same, (fun _ h => nomatch h), List.nodup_nil⟩, fun L => by simp, rfl⟩

theorem posK_first {κ : Type} [DecidableEq κ] {ks : List κ} {k : κ} {i : Nat} (h : i < posK ks k) (hi : i < ks.length) : ks[i] ≠ k := by
  intro z
  have := List.not_of_lt_findIdx (p := fun x => decide (x = k)) (xs := ks) h
  simp [z] at this
theorem lidx_of {κ : Type} [DecidableEq κ] {a : Addr} {m : Mem} {q : DQ} {ks : List κ} {f : κ → PyData} {y : D} {k : κ} (e1 : pyD m (.ref a) = some (.list (ks.map f))) (e2 : pyD m y = some (f k)) (s1 : SeqAt.shaped (.list (ks.map f)) = true) (s2 : SeqAt.shaped (f k) = true) (hf : ∀ x x', PyData.eqv (f x) (f x') = decide (x = x')) (hk : k ∈ ks) (hq : q (natD (posK ks k)) m) : lidxD (.ref a) [y] m q := by
  refine ⟨_, _, posK ks k, f k, e1, e2, s1, s2, ?_, by rw [hf]; exact decide_eq_true rfl, fun i z' hi hz' => ?_, hq⟩
  · rw [List.getElem?_map, posK_get hk]; rfl
  · have hl : i < ks.length := Nat.lt_trans hi (posK_lt hk)
    rw [List.getElem?_map, List.getElem?_eq_getElem hl] at hz'
    cases hz'
    rw [hf]
    exact decide_eq_false (posK_first hi hl)
/-- numbers as data, in a list -/
def pyN (n : Nat) : PyData := .int ((n : Nat) : Int)
theorem pyD_refNs {m : Mem} {a : Addr} {R : List Nat} (h : m a = some (.lst (R.map natD))) : pyD m (.ref a) = some (.list (R.map pyN)) := by
  show pyA m 3 a = _
  unfold pyA
  rw [h]
  show (pyWs (pyA m 2) (R.map natD)).map PyData.list = _
  rw [natD_map, pyWs_ints, List.map_map]
  rfl
theorem eqv_pyN (x x' : Nat) : PyData.eqv (pyN x) (pyN x') = decide (x = x') := by
  show (((x : Nat) : Int) == ((x' : Nat) : Int)) = _
  by_cases h : x = x'
  · rw [h]; simp
  · rw [decide_eq_false h, beq_eq_false_iff_ne]; omega
theorem shaped_Ns (R : List Nat) : SeqAt.shaped (.list (R.map pyN)) = true := by
  have : R.map pyN = (R.map fun n => ((n : Nat) : Int)).map PyData.int := by rw [List.map_map]; rfl
  rw [this]; exact shaped_listInts _
theorem shaped_N (x : Nat) : SeqAt.shaped (pyN x) = true := rfl
/-! ### the law's rooms come to, walked -/
theorem pyWs_paired {κ : Type} {g : Addr → Option PyData} {f : κ → PyData} : ∀ {us : List D} {ks : List κ}, Paired (fun d k => pyW g d = some (f k)) us ks → pyWs g us = some (ks.map f)
  | _, _, .nil => rfl
  | _, _, .cons h r => by
    rw [pyWs, h, pyWs_paired r]
    rfl
theorem pyD_paired {κ : Type} {m : Mem} {a : Addr} {f : κ → PyData} {us : List D} {ks : List κ} (h : m a = some (.lst us)) (p : Paired (fun d k => pyW (pyA m 2) d = some (f k)) us ks) : pyD m (.ref a) = some (.list (ks.map f)) := by
  show pyA m 3 a = _
  unfold pyA
  rw [h]
  show (pyWs (pyA m 2) us).map PyData.list = _
  rw [pyWs_paired p]
  rfl
theorem inA_of {κ : Type} [DecidableEq κ] {m : Mem} {a : Addr} {y : D} {f : κ → PyData} {ks : List κ} {k : κ} {neg : Bool} {q : DQ} (e2 : pyD m (.ref a) = some (.list (ks.map f))) (e1 : pyD m y = some (f k)) (s1 : SeqAt.shaped (.list (ks.map f)) = true) (s2 : SeqAt.shaped (f k) = true) (hf : ∀ x x', PyData.eqv (f x) (f x') = decide (x = x'))
    (hq : q (.bl (if neg then !decide (k ∈ ks) else decide (k ∈ ks))) m) : inA neg y (.ref a) m q := by
  have ev : (ks.map f).any (fun z => PyData.eqv z (f k)) = decide (k ∈ ks) := by
    rw [Bool.eq_iff_iff, List.any_eq_true, decide_eq_true_iff]
    constructor
    · rintro ⟨z, hz, e⟩
      obtain ⟨y, hy, rfl⟩ := List.mem_map.mp hz
      rw [hf] at e
      rw [← of_decide_eq_true e]; exact hy
    · intro z
      exact ⟨f k, List.mem_map.mpr ⟨k, z, rfl⟩, by rw [hf]; exact decide_eq_true rfl⟩
  unfold inA
  rw [e1, e2]
  refine ⟨s2, s1, ?_⟩
  show q (.bl (if neg = true then !((ks.map f).any fun z => PyData.eqv z (f k)) else (ks.map f).any fun z => PyData.eqv z (f k))) m
  rw [ev]
  exact hq
theorem itOf_sq {m0 m : Mem} {d : D} {xs : List D} {q : Itd → Prop} (h : d = .tup xs ∨ ∃ a, d = .ref a ∧ m0 a = some (.lst xs)) (l : m0.le m) (hq : ∀ chk : Mem → Prop, (∀ M', m0.le M' → chk M') → q ⟨xs, chk⟩) : itOf m d q := by
  rcases h with rfl | ⟨a, rfl, g⟩
  · exact hq _ fun _ _ => trivial
  · rw [itOf_r (l _ _ g)]
    exact hq _ fun M' l => l _ _ g
theorem RoomsAt.ixD {m m' : Mem} {d : D} {M : Mach} {i : Nat} {K : DQ} (h : RoomsAt m d M) (l : m.le m') (hi : i < M.length) (hK : ∀ s, (s = .tup ((rA M i).map natD) ∨ ∃ c, s = .ref c ∧ m c = some (.lst ((rA M i).map natD))) → K (.tup [.ftup ((tA M i).map D.int), s]) m') : ixD d (natD i) m' K := by
  obtain ⟨rs, hd, hr⟩ := h.ex
  obtain ⟨s, e, hs⟩ := hr i hi
  rcases hd with rfl | ⟨b, rfl, hb⟩
  · rw [ixD_t (atI_nat e)]; exact hK s hs
  · rw [ixD_r (l _ _ hb) (atI_nat e)]; exact hK s hs
theorem addR_eqB {met : List Nat} {to : Nat} : addR eqB met to = if to ∈ met then met else met ++ [to] := by
  unfold addR
  have : met.any (fun x => eqB x to) = decide (to ∈ met) := by
    rw [Bool.eq_iff_iff, List.any_eq_true, decide_eq_true_iff]
    exact ⟨fun ⟨x, hx, e⟩ => by rw [← of_decide_eq_true (p := x = to) e]; exact hx, fun h => ⟨to, h, eqB_rf to⟩⟩
  rw [this]
  by_cases h : to ∈ met
  · rw [decide_eq_true h, if_pos rfl, if_pos h]
  · rw [decide_eq_false h, if_neg (by simp), if_neg h]
theorem rdok_law_come {ds m q qe} (h : sp_law_come ds m q qe) : rd_law_come (fun cls _ m => qe cls m) (defEnds q) (startD N_law_come ds) m := by
  obtain ⟨d, e, e0, k, M, r, ra, cl, k4, most, e2, hr, hq⟩ := sp2_at h
  clear h
  subst e0 e2
  show rd_law_come _ (defEnds q) [some d, some (natD r), none, none, none] m
  unfold rd_law_come
  walk_at "rf"
  refine ⟨by walk_at "sz", fun a ha => ?_⟩
  unfold rd_law_come_1
  walk_at "rf"
  unfold rd_law_come_2
  walk_at "rf"
  refine ⟨fun n ρ m' => ∃ (i : Nat) (x4 : Option D), n = 61 - i ∧ (∀ j, j < i → j < (bfsN M eqB r j).length) ∧ m' = m.set a (.lst ((bfsN M eqB r i).map natD)) ∧ ρ = [some d, some (natD r), some (.ref a), some (natD i), x4],
    ⟨_, 0, _, rfl, (fun _ h => absurd h (Nat.not_lt_zero _)), rfl, rfl⟩, ?_⟩
  rintro n ρ m' ⟨i, x4, rfl, hk, rfl, rfl⟩
  have mok := bfsN_ok (e := eqB) cl hr i hk
  have mfew := mok.few eqB_rf
  have g : ∀ met : List Nat, (m.set a (.lst (met.map natD))) a = some (.lst (met.map natD)) := fun _ => Mem.set_same
  walk_at "rf"
  rw [lenD_r (g _), List.length_map]
  walk_at "rf"
  by_cases hlt : i < (bfsN M eqB r i).length
  · rw [decide_eq_true (by omega)]
    walk_at "rf"
    have hlow := met_low mok hlt
    unfold rd_law_come_2w
    walk_at "rf"
    rw [ixD_r (g _) (atI_natD hlt)]
    refine ra.ixD (Mem.le_set ha) hlow fun s hs => ?_
    rw [ixD_t (at21 _ _)]
    refine itOf_sq hs (Mem.le_set ha) fun chk hchk => ?_
    refine for_inv (fun items ρ m' => ∃ (tos met : List Nat) (x4 : Option D), items = tos.map natD ∧ (∀ x ∈ tos, x < M.length) ∧ MetOk eqB M.length met ∧ addAll eqB met tos = bfsN M eqB r (i + 1) ∧ m' = m.set a (.lst (met.map natD)) ∧
      ρ = [some d, some (natD r), some (.ref a), some (natD i), x4]) (fun _ _ m' ⟨_, _, _, _, _, _, _, e, _⟩ => by rw [e]; exact hchk _ (Mem.le_set ha)) (fun ρ m' hP => ?_) (fun d' rr ρ m' hP N hNx => ?_) _ _ _ ?_
    · obtain ⟨tos, met, x4, e, _, _, hA, rfl, rfl⟩ := hP
      cases tos with
      | cons _ _ => cases e
      | nil =>
        have hA' : met = bfsN M eqB r (i + 1) := hA
        subst hA'
        unfold rd_law_come_2w1
        walk_at "rf"
        refine dn_here ⟨61 - (i + 1), by omega, i + 1, _, rfl, fun j hk' => ?_, rfl, rfl⟩
        rcases Nat.lt_or_eq_of_le (Nat.le_of_lt_succ hk') with z | z
        · exact hk j z
        · rw [z]; exact hlt
    · obtain ⟨tos, met, x4, e, hlow', mok', hA, rfl, rfl⟩ := hP
      cases tos with
      | nil => cases e
      | cons to tos =>
        rw [List.map_cons] at e
        obtain ⟨rfl, rfl⟩ := List.cons.inj e
        have hto := hlow' to List.mem_cons_self
        have hA' : addAll eqB (addR eqB met to) tos = bfsN M eqB r (i + 1) := hA
        have few' := mok'.few eqB_rf
        have mok2 := addR_ok mok' hto
        rw [addR_eqB] at hA' mok2
        walk_at "rf"
        unfold rd_law_come_2w0f
        walk_at "rf"
        refine inA_of (k := to) (pyD_refNs (g met)) rfl (shaped_Ns met) (shaped_N to) eqv_pyN ?_
        by_cases hin : to ∈ met
        · rw [decide_eq_true hin]
          walk_at "rf"
          rw [if_pos hin] at hA' mok2
          exact dn_here (hNx _ _ ⟨tos, met, _, rfl, fun x hx => hlow' x (List.mem_cons_of_mem _ hx), mok2, hA', rfl, rfl⟩)
        · rw [decide_eq_false hin]
          walk_at "rf"
          rw [if_neg hin] at hA' mok2
          refine ⟨⟨a, _, rfl, g _⟩, ?_⟩
          rw [appendD_r (g _)]
          refine ⟨by rw [List.length_map]; exact sized' (by omega), ?_⟩
          rw [Mem.set_set]
          exact dn_here (hNx _ _ ⟨tos, met ++ [to], _, rfl, fun x hx => hlow' x (List.mem_cons_of_mem _ hx), mok2, hA', by rw [List.map_append]; rfl, rfl⟩)
    · exact ⟨_, _, _, rfl, fun x hx => cl.low _ hlow x hx, mok, rfl, rfl, rfl⟩
  · rw [decide_eq_false (by omega)]
    walk_at "rf"
    have him : IsMet M eqB r (bfsN M eqB r i) := by
      refine ⟨i, rfl, ?_, hk⟩
      rcases Nat.lt_or_ge 0 i with z | z
      · have h1 := hk (i - 1) (by omega)
        obtain ⟨t, ht⟩ := bfsN_pre (M := M) (e := eqB) (r := r) (show i - 1 ≤ i by omega)
        have := congrArg List.length ht
        rw [List.length_append] at this
        omega
      · have : i = 0 := by omega
        subst this
        exact absurd (show 0 < (bfsN M eqB r 0).length from Nat.one_pos) hlt
    unfold rd_law_come_3
    walk_at "rf"
    exact defEnds_here (hq a _ ha him)

/-! ### the law's numbers, walked -/
theorem kd_app {met ns : List Nat} {r v : Nat} (h : met.length = ns.length) : kdM (met ++ [r]) (ns ++ [v]) = kdM met ns ++ [(.inl ((r : Nat) : Int), natD v)] := by
  unfold kdM
  rw [List.zip_append h, List.map_append]
  rfl
theorem kd_none : ∀ {met ns : List Nat} {r : Nat}, r ∉ met → valG (kdM met ns) (.inl ((r : Nat) : Int)) = none
  | [], _, _, _ => valG_nil ..
  | _ :: _, [], _, _ => valG_nil ..
  | x :: met, n :: ns, r, h => by
    show valG ((.inl ((x : Nat) : Int), natD n) :: kdM met ns) _ = _
    rw [valG_cons, if_neg (fun z => h (by injection z with z; rw [Int.ofNat.inj z]; exact List.mem_cons_self))]
    exact kd_none fun z => h (List.mem_cons_of_mem _ z)
theorem kd_get : ∀ {met ns : List Nat} {i : Nat}, met.Nodup → met.length = ns.length → i < met.length → valG (kdM met ns) (.inl ((met.getD i 0 : Nat) : Int)) = some (natD (ns.getD i 0))
  | [], _, _, _, _, h => absurd h (Nat.not_lt_zero _)
  | _ :: _, [], _, _, h, _ => by simp at h
  | x :: met, n :: ns, 0, _, _, _ => by
    show valG ((.inl ((x : Nat) : Int), natD n) :: kdM met ns) _ = _
    rw [valG_cons]
    exact if_pos rfl
  | x :: met, n :: ns, i + 1, nd, hl, h => by
    show valG ((.inl ((x : Nat) : Int), natD n) :: kdM met ns) _ = _
    rw [List.nodup_cons] at nd
    have hi : i < met.length := by simpa using h
    rw [List.getD_cons_succ, List.getD_cons_succ, valG_cons, if_neg (fun z => nd.1 (by injection z with z; rw [Int.ofNat.inj z]; exact getD_nmem hi))]
    exact kd_get nd.2 (by simpa using hl) hi
theorem kd_vals {met ns : List Nat} (h : met.length = ns.length) : (kdM met ns).map (·.2) = (ns.map fun n => ((n : Nat) : Int)).map D.int := by
  unfold kdM
  rw [List.map_map, List.map_map]
  show (met.zip ns).map ((fun n => D.int ((n : Nat) : Int)) ∘ Prod.snd) = _
  rw [← List.map_map, List.map_snd_zip (by omega)]
  rfl
theorem PyAt.le {m m' : Mem} {d : D} {p : PyData} (h : PyAt m d p) (l : m.le m') : PyAt m' d p := fun m'' l' => h m'' (Mem.le_trans l l')
theorem paired_imp {α β : Type} {R S : α → β → Prop} (h : ∀ a b, R a b → S a b) : ∀ {xs : List α} {ys : List β}, Paired R xs ys → Paired S xs ys
  | _, _, .nil => .nil
  | _, _, .cons r t => .cons (h _ _ r) (paired_imp h t)
theorem rdok_law_numbered {ds m q qe} (h : sp_law_numbered ds m q qe) : rd_law_numbered (fun cls _ m => qe cls m) (defEnds q) (startD N_law_numbered ds) m := by
  obtain ⟨d, e, e0, κ, hdec, f, a, b, rows, keys, met, e1, ha, e2, hb, kf, hlk, nd, few, hq⟩ := sp2_at h
  clear h
  subst e0 e1 e2
  show rd_law_numbered _ (defEnds q) [some (.ref a), some (.ref b), none, none, none, none] m
  unfold rd_law_numbered
  walk_at "rf"
  refine ⟨by walk_at "sz", fun l hl => ?_⟩
  unfold rd_law_numbered_1 dDict0
  walk_at "rf"
  refine .inl fun p hp => ?_
  obtain ⟨hp0, npl⟩ := Mem.set_none hp
  have l0 : m.le ((m.set l (.lst [])).set p (.dK [])) := Mem.le_set_of (Mem.le_set hl) hp0
  unfold rd_law_numbered_2 iZip
  walk_at "rf"
  unfold tupO
  dsimp only
  rw [l0 _ _ hb, l0 _ _ ha]
  dsimp only
  refine for_inv (fun items ρ M' => ∃ (dm rm : List Nat) (rr us : List D) (dk rk U : List κ) (x4 x5 : Option D), met = dm ++ rm ∧ keys = dk ++ rk ∧ dm.length = dk.length ∧ items = zipP (rm.map natD) rr ∧ Paired (fun r k => PyAt m r (f k)) rr rk ∧
      m.le M' ∧ M' l = some (.lst us) ∧ M' p = some (.dK (kdM dm (dk.map (posK U)))) ∧ Paired (fun r k => PyAt m r (f k)) us U ∧ U.Nodup ∧ (∀ k, k ∈ U ↔ k ∈ dk) ∧ ρ = [some (.ref a), some (.ref b), some (.ref l), some (.ref p), x4, x5])
    (fun _ _ M' ⟨_, _, _, _, _, _, _, _, _, _, _, _, _, _, le, _⟩ => ⟨le _ _ hb, le _ _ ha⟩) (fun ρ M' hP => ?_) (fun dd rr' ρ M' hP N hN => ?_) _ _ _ ?_
  · obtain ⟨dm, rm, rr, us, dk, rk, U, x4, x5, e1, e2, e3, e4, e5, le, g1, g2, pu, nu, hu, rfl⟩ := hP
    have hrk : rr.length = rk.length := e5.length
    have hrm : rm.length = rk.length := by
      have h1 := congrArg List.length e1
      have h2 := congrArg List.length e2
      rw [List.length_append] at h1 h2
      omega
    cases rm with
    | cons x rm =>
      cases rr with
      | nil => rw [List.length_cons] at hrm; rw [List.length_nil] at hrk; omega
      | cons _ _ => cases e4
    | nil =>
      have : rk = [] := List.length_eq_zero_iff.mp (by rw [← hrm]; rfl)
      subst this
      rw [List.append_nil] at e1 e2
      subst e1 e2
      unfold rd_law_numbered_3
      walk_at "rf"
      refine defEnds_le (fun c o z => ?_) (hq p (keys.map (posK U)) U.length (by rw [← hlk]; exact num_of nu hu) hp0)
      by_cases hc : c = p
      · subst hc; rw [Mem.set_same] at z; rw [← z]; exact g2
      · rw [Mem.set_ne hc] at z; exact le _ _ z
  · obtain ⟨dm, rm, rr, us, dk, rk, U, x4, x5, e1, e2, e3, e4, e5, le, g1, g2, pu, nu, hu, rfl⟩ := hP
    cases rm with
    | nil => cases e4
    | cons x rm =>
      cases e5 with
      | nil => cases e4
      | @cons y k rr rk hy e5 =>
        rw [List.map_cons] at e4
        obtain ⟨rfl, rfl⟩ := List.cons.inj e4
        have hdm : dm.length < met.length := by rw [e1, List.length_append, List.length_cons]; omega
        have hxn : x ∉ dm := fun z => by
          rw [e1, List.nodup_append] at nd
          exact nd.2.2 x z x List.mem_cons_self rfl
        have hUl : U.length ≤ dk.length := nd_len nu fun k hk => (hu k).mp hk
        have uslen := pu.length
        have pyy := hy M' le
        have e2' : keys = (dk ++ [k]) ++ rk := by rw [e2, List.append_assoc]; rfl
        have e1' : met = (dm ++ [x]) ++ rm := by rw [e1, List.append_assoc]; rfl
        walk_at "rf"
        refine ⟨rfl, ?_⟩
        unfold rd_law_numbered_2f
        walk_at "rf"
        refine inA_of (k := k) (pyD_paired g1 (paired_imp (fun r k z => (z M' le).1) pu)) pyy.2 (kf.shl _) (kf.sh _) kf.eqv ?_
        by_cases hk : k ∈ U
        · rw [decide_eq_true hk]
          walk_at "rf"
          unfold rd_law_numbered_2f1
          walk_at "rf"
          refine ⟨⟨l, _, rfl, g1⟩, lidx_of (k := k) (pyD_paired g1 (paired_imp (fun r k z => (z M' le).1) pu)) pyy.2 (kf.shl _) (kf.sh _) kf.eqv hk ?_⟩
          rw [setG_K g2 (show keyK (natD x) = some (.inl ((x : Nat) : Int)) from rfl)]
          refine ⟨by unfold kdM; rw [List.length_map, List.length_zip]; exact sized' (by omega), ?_⟩
          rw [putG_new _ (kd_none hxn), ← kd_app (by rw [List.length_map]; exact e3)]
          have lM := Mem.le_set_of (o := .dK (kdM (dm ++ [x]) (dk.map (posK U) ++ [posK U k]))) le hp0
          refine dn_here (hN _ _ ⟨dm ++ [x], rm, rr, us, dk ++ [k], rk, U, _, _, e1', e2', by rw [List.length_append, List.length_append, e3]; rfl, rfl, e5, lM, by rw [Mem.set_ne npl.symm]; exact g1, by rw [Mem.set_same, List.map_append]; rfl, pu, nu, fun j => ?_, rfl⟩)
          rw [List.mem_append, ← hu j, List.mem_singleton]
          exact ⟨.inl, fun z => z.elim id fun z => z ▸ hk⟩
        · rw [decide_eq_false hk]
          walk_at "rf"
          refine ⟨⟨l, _, rfl, g1⟩, ?_⟩
          rw [appendD_r g1]
          refine ⟨sized' (by omega), ?_⟩
          unfold rd_law_numbered_2f1
          walk_at "rf"
          have g1' : (M'.set l (.lst (us ++ [y]))) l = some (.lst (us ++ [y])) := Mem.set_same
          have g2' : (M'.set l (.lst (us ++ [y]))) p = some (.dK (kdM dm (dk.map (posK U)))) := by rw [Mem.set_ne npl]; exact g2
          have le' := Mem.le_set_of (o := .lst (us ++ [y])) le hl
          have pu' := pu.snoc hy
          have hkU : k ∈ U ++ [k] := by simp
          refine ⟨⟨l, _, rfl, g1'⟩, lidx_of (k := k) (pyD_paired g1' (paired_imp (fun r k z => (z _ le').1) pu')) (hy _ le').2 (kf.shl _) (kf.sh _) kf.eqv hkU ?_⟩
          rw [setG_K g2' (show keyK (natD x) = some (.inl ((x : Nat) : Int)) from rfl)]
          refine ⟨by unfold kdM; rw [List.length_map, List.length_zip]; exact sized' (by omega), ?_⟩
          have em : dk.map (posK U) = dk.map (posK (U ++ [k])) := List.map_congr_left fun j hj => (posK_app ((hu j).mpr hj)).symm
          rw [em, putG_new _ (kd_none hxn), ← kd_app (by rw [List.length_map]; exact e3)]
          have lM := Mem.le_set_of (o := .dK (kdM (dm ++ [x]) (dk.map (posK (U ++ [k])) ++ [posK (U ++ [k]) k]))) le' hp0
          refine dn_here (hN _ _ ⟨dm ++ [x], rm, rr, us ++ [y], dk ++ [k], rk, U ++ [k], _, _, e1', e2', by rw [List.length_append, List.length_append, e3]; rfl, rfl, e5, lM, by rw [Mem.set_ne npl.symm]; exact g1', by rw [Mem.set_same, List.map_append]; rfl, pu', ?_, fun j => ?_, rfl⟩)
          · rw [List.nodup_append]
            refine ⟨nu, by simp, fun u hu' v hv => ?_⟩
            rw [List.mem_singleton] at hv; subst hv
            exact fun z => hk (z ▸ hu')
          · rw [List.mem_append, List.mem_append, hu j]
  · exact ⟨[], met, rows, [], [], keys, [], _, _, rfl, rfl, rfl, rfl, kf.at_, l0, by rw [Mem.set_ne npl.symm, Mem.set_same], Mem.set_same, .nil, List.nodup_nil, fun k => by simp, rfl⟩

/-! ### the law's least machine: plain -/
section
variable {e f : Nat → Nat → Prop} {n c c' : Nat} {ns ms : List Nat}
theorem NumOf.lef (h : NumOf e n c ns) (g : NumOf f n c' ms) (fine : ∀ i j, i < n → j < n → f i j → e i j) : c ≤ c' := by
  classical
  let w : Nat → Nat := fun u => if z : ∃ t, t < n ∧ ms.getD t 0 = u then ns.getD (Classical.choose z) 0 else 0
  have hw : ∀ t, t < n → w (ms.getD t 0) = ns.getD t 0 := fun t ht => by
    have z : ∃ s, s < n ∧ ms.getD s 0 = ms.getD t 0 := ⟨t, ht, rfl⟩
    have hs := Classical.choose_spec z
    show (if z : ∃ s, s < n ∧ ms.getD s 0 = ms.getD t 0 then ns.getD (Classical.choose z) 0 else 0) = _
    rw [dif_pos z]
    exact (h.iff _ t hs.1 ht).mpr (fine _ t hs.1 ht ((g.iff _ t hs.1 ht).mp hs.2))
  have := nd_len (xs := List.range c) (ys := (List.range c').map w) List.nodup_range fun v hv => by
    obtain ⟨t, ht, tv⟩ := h.all v (List.mem_range.mp hv)
    exact List.mem_map.mpr ⟨_, List.mem_range.mpr (g.low t ht), by rw [hw t ht, tv]⟩
  rw [List.length_range, List.length_map, List.length_range] at this
  exact this
end
/-- the first place with this number -/
def fiN (ns : List Nat) (v : Nat) : Nat := ns.findIdx fun x => decide (x = v)
/-- the machine of the numbers -/
def quoM (N : Mach) (ns : List Nat) (c : Nat) : Mach := (List.range c).map fun v => (tA N (fiN ns v), (rA N (fiN ns v)).map fun x => ((ns.getD x 0 : Nat) : Int))
section
variable {k c : Nat} {N : Mach} {ns : List Nat}
theorem fi_ok (h : NumOf (Eqv k N N) N.length c ns) {v : Nat} (hv : v < c) : fiN ns v < N.length ∧ ns.getD (fiN ns v) 0 = v := by
  obtain ⟨i, hi, e⟩ := h.all v hv
  have hin : v ∈ ns := by rw [← e]; exact getD_nmem (by rw [h.len]; exact hi)
  have hl : fiN ns v < ns.length := List.findIdx_lt_length.mpr ⟨v, hin, by simp⟩
  refine ⟨by rw [← h.len]; exact hl, ?_⟩
  rw [List.getD_eq_getElem?_getD, List.getElem?_eq_getElem hl]
  have := List.findIdx_getElem (p := fun x => decide (x = v)) (w := hl)
  exact of_decide_eq_true this
theorem quo_len : (quoM N ns c).length = c := by unfold quoM; rw [List.length_map, List.length_range]
theorem quo_at {v : Nat} (hv : v < c) : (quoM N ns c).getD v ([], []) = (tA N (fiN ns v), (rA N (fiN ns v)).map fun x => ((ns.getD x 0 : Nat) : Int)) := by
  unfold quoM
  rw [List.getD_eq_getElem?_getD, List.getElem?_map, List.getElem?_range hv]; rfl
theorem quo_t {v : Nat} (hv : v < c) : tA (quoM N ns c) v = tA N (fiN ns v) := by
  conv => lhs; unfold tA
  rw [quo_at hv]
theorem quo_r {v : Nat} (hv : v < c) : rA (quoM N ns c) v = (rA N (fiN ns v)).map fun x => ns.getD x 0 := by
  conv => lhs; unfold rA
  rw [quo_at hv, List.map_map]
  exact List.map_congr_left fun x _ => rfl
theorem quo_cl (cl : Cl k N) (h : NumOf (Eqv k N N) N.length c ns) : Cl k (quoM N ns c) := by
  refine ⟨fun v hv => ?_, fun v hv x hx => ?_⟩
  · rw [quo_len] at hv
    rw [quo_r hv, List.length_map]; exact cl.len _ (fi_ok h hv).1
  · rw [quo_len] at hv ⊢
    rw [quo_r hv] at hx
    obtain ⟨y, hy, rfl⟩ := List.mem_map.mp hx
    exact h.low y (cl.low _ (fi_ok h hv).1 y hy)
theorem quo_rg (cl : Cl k N) (h : NumOf (Eqv k N N) N.length c ns) {v l : Nat} (hv : v < c) (hl : l < k) : rg (quoM N ns c) v l = ns.getD (rg N (fiN ns v) l) 0 := by
  have hf := (fi_ok h hv).1
  unfold rg
  rw [quo_r hv, List.getD_eq_getElem?_getD, List.getElem?_map, List.getElem?_eq_getElem (by rw [cl.len _ hf]; exact hl), List.getD_eq_getElem?_getD (l := rA N (fiN ns v)), List.getElem?_eq_getElem (by rw [cl.len _ hf]; exact hl)]
  rfl
theorem quo_eqv (cl : Cl k N) (h : NumOf (Eqv k N N) N.length c ns) {i : Nat} (hi : i < N.length) : Eqv k (quoM N ns c) N (ns.getD i 0) i := by
  refine Eqv.co (P := fun v i => i < N.length ∧ v = ns.getD i 0) (fun v i ⟨hi, hv⟩ => ?_) ⟨hi, rfl⟩
  have hv' : v < c := by rw [hv]; exact h.low i hi
  obtain ⟨hf, ef⟩ := fi_ok h hv'
  have ee : Eqv k N N (fiN ns v) i := (h.iff _ _ hf hi).mp (by rw [ef, hv])
  refine ⟨(quo_t hv').trans ee.tn, fun l hl => ⟨cl.rg hi hl, ?_⟩⟩
  rw [quo_rg cl h hv' hl]
  exact (h.iff _ _ (cl.rg hf hl) (cl.rg hi hl)).mpr (ee.go hl)
theorem quo_tells (cl : Cl k N) (h : NumOf (Eqv k N N) N.length c ns) : Tells k (quoM N ns c) eqB := by
  refine ⟨eqB_rf, fun u v hu hv => ?_⟩
  rw [quo_len] at hu hv
  unfold eqB
  rw [decide_eq_true_iff]
  constructor
  · rintro rfl; exact Eqv.refl _
  · intro z
    obtain ⟨fu, eu⟩ := fi_ok h hu
    obtain ⟨fv, ev⟩ := fi_ok h hv
    have h1 := quo_eqv cl h fu
    have h2 := quo_eqv cl h fv
    rw [eu] at h1
    rw [ev] at h2
    rw [← eu, ← ev]
    exact (h.iff _ _ fu fv).mpr (h1.symm.trans (z.trans h2))
/-- the law's way to the least machine -/
theorem quo_lea {M : Mach} {r : Nat} {met pl : List Nat} (ok : IsMach k M) (hr : r < M.length) (him : IsMet M eqB r met) (hN : N = leastL M eqB met) (okN : IsMach k N) (h : NumOf (Eqv k N N) N.length c ns) (hp : IsMet (quoM N ns c) eqB (ns.getD 0 0) pl) : lea k M r = leastL (quoM N ns c) eqB pl := by
  have cl := okN.cl
  have h0 : ns.getD 0 0 < (quoM N ns c).length := by rw [quo_len]; exact h.low 0 okN.few
  have e1 : leastL (quoM N ns c) eqB pl = lea k (quoM N ns c) (ns.getD 0 0) := lea_uniq (quo_cl cl h) h0 ⟨⟨_, _, quo_tells cl h, hp, rfl⟩⟩
  rw [e1]
  have e2 : Eqv k N M 0 r := by
    rw [hN]
    obtain ⟨t, ht⟩ := him.first
    refine leastL_eqv' ok.cl (eqB_sound k M) hr him (i := 0) (by rw [ht]; simp) hr ?_
    rw [ht]; exact Eqv.refl _
  exact lea_same ok.cl (quo_cl cl h) hr h0 ((quo_eqv cl h okN.few).trans e2).symm
end
/-! ### comprehensions whose items are made -/
theorem comp_g {chk : Mem → Prop} {i : Nat} {te : DTE} {ρ : DEnv} {q : List D → Mem → Prop} {m0 : Mem} (R : Nat → D → Mem → Prop) (hR : ∀ n d M M', M.le M' → R n d M → R n d M') (hc : ∀ M, m0.le M → chk M) (items : List D) (hz : items.length ≤ sizeLine)
    (hs : ∀ n d, items[n]? = some d → ∀ M, m0.le M → ∀ K : DQ, (∀ y M', M.le M' → R n y M' → K y M') → te (ρ.set i (some d)) M K)
    (hq : ∀ ys M, m0.le M → ys.length = items.length → (∀ n y, ys[n]? = some y → R n y M) → q ys M) : compR chk (gNm i) dYes te ρ q items [] m0 := by
  refine comp_inv (fun it acc M => ∃ n, it = items.drop n ∧ acc.length = n ∧ n ≤ items.length ∧ m0.le M ∧ ∀ j y, acc[j]? = some y → R j y M) (fun _ _ M ⟨_, _, _, _, l, _⟩ => hc M l) (fun acc M hP => ?_) (fun d r acc M hP N hN => ?_) _ _ _ ⟨0, rfl, rfl, Nat.zero_le _, Mem.le_refl _, fun j y z => by simp at z⟩
  · obtain ⟨n, e, el, hn, l, hr⟩ := hP
    have hn' : n = items.length := by
      have := congrArg List.length e
      rw [List.length_nil, List.length_drop] at this; omega
    exact hq acc M l (by rw [el, hn']) hr
  · obtain ⟨n, e, el, hn, l, hr⟩ := hP
    have hlt : n < items.length := by
      have := congrArg List.length e
      rw [List.length_cons, List.length_drop] at this; omega
    rw [List.drop_eq_getElem_cons hlt] at e
    obtain ⟨rfl, rfl⟩ := List.cons.inj e
    show (if true = true then te (ρ.set i (some items[n])) M (fun y m4 => acc.length < sizeLine ∧ N (acc ++ [y]) m4) else N acc M)
    rw [if_pos rfl]
    refine hs n _ (List.getElem?_eq_getElem hlt) M l _ fun y M' l' hy => ⟨by omega, hN _ _ ⟨n + 1, rfl, by rw [List.length_append, el]; rfl, hlt, Mem.le_trans l l', fun j z hz => ?_⟩⟩
    rcases Nat.lt_or_ge j acc.length with h | h
    · rw [List.getElem?_append_left h] at hz
      exact hR _ _ _ _ l' (hr j z hz)
    · rw [List.getElem?_append_right h] at hz
      have : j = acc.length := by
        rcases Nat.lt_or_ge (j - acc.length) 1 with w | w
        · omega
        · rw [List.getElem?_eq_none (by simpa using w)] at hz; cases hz
      subst this
      rw [Nat.sub_self] at hz
      cases hz
      rw [el]; exact hy
theorem paired_of {α β : Type} {R : α → β → Prop} : ∀ {xs : List α} {ys : List β}, xs.length = ys.length → (∀ (n : Nat) (x : α) (y : β), xs[n]? = some x → ys[n]? = some y → R x y) → Paired R xs ys
  | [], [], _, _ => .nil
  | [], _ :: _, h, _ => by simp at h
  | _ :: _, [], h, _ => by simp at h
  | x :: xs, y :: ys, h, g => .cons (g 0 x y rfl rfl) (paired_of (by simpa using h) fun n a b ha hb => g (n + 1) a b (by simpa using ha) (by simpa using hb))
theorem head_fi : ∀ {met ns : List Nat} {P : Nat → Bool} {v : Nat}, met.length = ns.length → (∀ i, i < met.length → P (met.getD i 0) = decide (ns.getD i 0 = v)) → fiN ns v < ns.length → (met.filter P)[0]? = some (met.getD (fiN ns v) 0)
  | [], [], _, _, _, _, h => absurd h (Nat.not_lt_zero _)
  | [], _ :: _, _, _, h, _, _ => by simp at h
  | _ :: _, [], _, _, h, _, _ => by simp at h
  | x :: met, n :: ns, P, v, hl, hP, hf => by
    have h0 : P x = decide (n = v) := hP 0 (by simp)
    by_cases hn : n = v
    · rw [List.filter_cons_of_pos (by rw [h0]; exact decide_eq_true hn)]
      have : fiN (n :: ns) v = 0 := by unfold fiN; rw [List.findIdx_cons, decide_eq_true hn]; rfl
      rw [this]; rfl
    · rw [List.filter_cons_of_neg (by rw [h0]; simpa using hn)]
      have : fiN (n :: ns) v = fiN ns v + 1 := by unfold fiN; rw [List.findIdx_cons, decide_eq_false hn]; rfl
      rw [this] at hf ⊢
      rw [List.getD_cons_succ]
      refine head_fi (by simpa using hl) (fun i hi => ?_) (by simpa using hf)
      have := hP (i + 1) (by simpa using hi)
      rwa [List.getD_cons_succ, List.getD_cons_succ] at this
/-! ### numbers and lists of numbers as data -/
def pyB (x : Nat × List Nat) : PyData := .tuple [pyN x.1, .list (x.2.map pyN)]
theorem mapN (xs : List Nat) : xs.map pyN = (xs.map fun n => ((n : Nat) : Int)).map PyData.int := by rw [List.map_map]; rfl
theorem natZ_inj : ∀ {xs ys : List Nat}, (xs.map fun n => ((n : Nat) : Int)) = (ys.map fun n => ((n : Nat) : Int)) → xs = ys
  | [], [], _ => rfl
  | [], _ :: _, h => by simp at h
  | _ :: _, [], h => by simp at h
  | x :: xs, y :: ys, h => by
    rw [List.map_cons, List.map_cons] at h
    injection h with h1 h2
    rw [Int.ofNat.inj h1, natZ_inj h2]
theorem eqv_pyB (x y : Nat × List Nat) : PyData.eqv (pyB x) (pyB y) = decide (x = y) := by
  obtain ⟨a, as⟩ := x
  obtain ⟨b, bs⟩ := y
  have h1 : PyData.eqv (.list (as.map pyN)) (.list (bs.map pyN)) = decide (as = bs) := by
    rw [PyData.eqv, mapN, mapN, eqvAll_ints]
    by_cases h : as = bs
    · rw [decide_eq_true h, decide_eq_true (by rw [h])]
    · rw [decide_eq_false h, decide_eq_false (fun z => h (natZ_inj z))]
  unfold pyB
  rw [PyData.eqv]
  simp only [PyData.eqvAll, eqv_pyN, h1, Bool.and_true]
  by_cases z1 : a = b <;> by_cases z2 : as = bs <;> simp [z1, z2]
theorem lay_B (x : Nat × List Nat) : PyData.canLay0 (pyB x) = true ∧ (pyB x).depth ≤ 3 := by
  have h := SeqAt.canLay_of_shaped (shaped_Ns x.2)
  have hd : PyData.depthAll (x.2.map pyN) ≤ 1 := by rw [mapN]; exact depth_ints' _
  have hd' : (PyData.list (x.2.map pyN)).depth ≤ 2 := by simp only [PyData.depth]; omega
  unfold pyB
  simp only [PyData.canLay0, PyData.canLayAll0, pyN, PyData.depth, PyData.depthAll, Bool.and_true, Bool.true_and] at h hd hd' ⊢
  exact ⟨h, by omega⟩
theorem lay_Bs : ∀ ks : List (Nat × List Nat), PyData.canLayAll0 (ks.map pyB) = true ∧ PyData.depthAll (ks.map pyB) ≤ 3
  | [] => by simp [PyData.canLayAll0, PyData.depthAll]
  | k :: ks => by
    obtain ⟨h1, h2⟩ := lay_Bs ks
    obtain ⟨g1, g2⟩ := lay_B k
    rw [List.map_cons]
    simp only [PyData.canLayAll0, PyData.depthAll, Bool.and_eq_true]
    exact ⟨⟨g1, h1⟩, by omega⟩
theorem shaped_B (x : Nat × List Nat) : SeqAt.shaped (pyB x) = true := by
  obtain ⟨h1, h2⟩ := lay_B x
  unfold SeqAt.shaped
  simp only [Bool.and_eq_true, decide_eq_true_eq]
  exact ⟨h1, by have := h2; grind⟩
theorem shaped_Bs (ks : List (Nat × List Nat)) : SeqAt.shaped (.list (ks.map pyB)) = true := by
  obtain ⟨h1, h2⟩ := lay_Bs ks
  unfold SeqAt.shaped
  simp only [PyData.canLay0, PyData.depth, Bool.and_eq_true, decide_eq_true_eq]
  exact ⟨h1, by have := h2; grind⟩
theorem pyAt_B {m : Mem} {n : Nat} {c : Addr} {ss : List Nat} (h : m c = some (.lst (ss.map natD))) : PyAt m (.tup [natD n, .ref c]) (pyB (n, ss)) := fun m' l => by
  have key : ∀ j, pyA m' (j + 1) c = some (.list (ss.map pyN)) := fun j => by
    unfold pyA
    rw [l _ _ h]
    show (pyWs (pyA m' j) (ss.map natD)).map PyData.list = _
    rw [natD_map, pyWs_ints, mapN]
    rfl
  have k2 : ∀ j, pyW (pyA m' (j + 1)) (.tup [natD n, .ref c]) = some (pyB (n, ss)) := fun j => by
    simp only [pyW, pyWs, key j, Option.map_some]
    rfl
  exact ⟨k2 1, k2 2⟩

/-! ### the law's least machine, walked -/
/-- the rooms come to, and their machine -/
structure LW (k : Nat) (M N : Mach) (r : Nat) (met : List Nat) : Prop where
  ok : IsMach k M
  hr : r < M.length
  him : IsMet M eqB r met
  hN : N = leastL M eqB met
section
variable {k r c : Nat} {M N : Mach} {met ns : List Nat} {m m' : Mem} {a p : Addr}
theorem LW.okN (h : LW k M N r met) : IsMach k N := by rw [h.hN]; exact leastL_mach h.ok eqB_rf h.hr h.him
theorem LW.len (h : LW k M N r met) : N.length = met.length := by rw [h.hN]; exact leastL_len
theorem LW.mok (h : LW k M N r met) : MetOk eqB M.length met := h.him.ok h.ok.cl h.hr
theorem LW.nd (h : LW k M N r met) : met.Nodup := h.mok.nd eqB_rf
theorem LW.few (h : LW k M N r met) : met.length ≤ 60 := by have := h.mok.few eqB_rf; have := h.ok.most; omega
theorem LW.t (h : LW k M N r met) {i : Nat} (hi : i < met.length) : tA N i = tA M (met.getD i 0) := by rw [h.hN]; exact leastL_t hi
theorem LW.rr (h : LW k M N r met) {i : Nat} (hi : i < met.length) : rA N i = (rA M (met.getD i 0)).map (idxR eqB met) := by rw [h.hN]; exact leastL_r hi
theorem LW.low (h : LW k M N r met) {i : Nat} (hi : i < met.length) : met.getD i 0 < M.length := met_low h.mok hi
theorem LW.to (h : LW k M N r met) {i to : Nat} (hi : i < met.length) (hto : to ∈ rA M (met.getD i 0)) : idxR eqB met to < met.length ∧ met.getD (idxR eqB met to) 0 = to := by
  have := h.him.closed' eqB_rf hi hto
  exact ⟨idx_lt this, of_decide_eq_true (idx_is this)⟩
theorem LW.self (h : LW k M N r met) {i : Nat} (hi : i < met.length) : idxR eqB met (met.getD i 0) = i := by
  have hm : met.any (fun x => eqB x (met.getD i 0)) = true := List.any_eq_true.mpr ⟨_, getD_nmem hi, eqB_rf _⟩
  have h1 := idx_lt hm
  have h2 : met.getD (idxR eqB met (met.getD i 0)) 0 = met.getD i 0 := of_decide_eq_true (idx_is hm)
  have e1 : met.getD (idxR eqB met (met.getD i 0)) 0 = met[idxR eqB met (met.getD i 0)] := by rw [List.getD_eq_getElem?_getD, List.getElem?_eq_getElem h1]; rfl
  have e2 : met.getD i 0 = met[i] := by rw [List.getD_eq_getElem?_getD, List.getElem?_eq_getElem hi]; rfl
  rw [e1] at h2
  exact nd_inj h.nd (h2.trans e2)
/-- kinds[room] -/
theorem LW.kind (h : LW k M N r met) (hp : m p = some (.dK (kdM met ns))) (hl : ns.length = met.length) {i : Nat} (hi : i < met.length) {q : DQ} (hq : q (natD (ns.getD i 0)) m) : ixG (.ref p) (natD (met.getD i 0)) m q := by
  rw [ixG_K hp (show keyK (natD (met.getD i 0)) = some (.inl ((met.getD i 0 : Nat) : Int)) from rfl) (kd_get h.nd hl.symm hi)]
  exact hq
theorem LW.kindTo (h : LW k M N r met) (hp : m p = some (.dK (kdM met ns))) (hl : ns.length = met.length) {i to : Nat} (hi : i < met.length) (hto : to ∈ rA M (met.getD i 0)) {q : DQ} (hq : q (natD (ns.getD (idxR eqB met to) 0)) m) : ixG (.ref p) (natD to) m q := by
  obtain ⟨h1, h2⟩ := h.to hi hto
  have := h.kind hp hl h1 hq
  rw [h2] at this
  exact this
/-- [kinds[there] for there in rooms[room][1]] -/
theorem LW.row (h : LW k M N r met) (hp : m p = some (.dK (kdM met ns))) (hl : ns.length = met.length) {i : Nat} (hi : i < met.length) {x1 x2 x3 x5 x6 x7 x8 x9 x10 x11 : Option D} {q : List D → Mem → Prop} (hq : q (((rA N i).map fun x => ns.getD x 0).map natD) m) :
    compR (fun _ => True) (gNm 6) dYes (dOp ixG (dVar 4) (dVar 6)) [some (machD M), x1, x2, x3, some (.ref p), x5, x6, x7, x8, x9, x10, x11] q ((rA M (met.getD i 0)).map natD) [] m := by
  refine comp_nat (fun to => natD (ns.getD (idxR eqB met to) 0)) trivial _ [] (fun to hto K hK => ?_) (by rw [h.ok.cl.len _ (h.low hi)]; exact sized (by simp; have := h.ok.four; omega)) ?_
  · walk_at "rf"
    exact h.kindTo hp hl hi hto hK
  · rw [List.nil_append]
    rw [h.rr hi, List.map_map, List.map_map] at hq
    exact hq
/-- rooms[room][j] -/
theorem room_t (ok : IsMach k M) {i : Nat} (hi : i < M.length) {q : DQ} (hq : q (.ftup ((tA M i).map D.int)) m) : ixG (machD M) (natD i) m (fun x m1 => ixG x (.int 0) m1 q) := by
  unfold machD
  rw [ixG_t (room_atI ok hi)]
  unfold roomM
  rw [ixG_t (at20 _ _)]
  exact hq
theorem room_r (ok : IsMach k M) {i : Nat} (hi : i < M.length) {q : DQ} (hq : q (.tup ((rA M i).map natD)) m) : ixG (machD M) (natD i) m (fun x m1 => ixG x (.int 1) m1 q) := by
  unfold machD
  rw [ixG_t (room_atI ok hi)]
  unfold roomM
  rw [ixG_t (at21 _ _)]
  exact hq
theorem maxV_kd (e : Nat → Nat → Prop) (hN : NumOf e met.length c ns) (hp : m p = some (.dK (kdM met ns))) (ne : met ≠ []) {x0 x1 x2 x3 x5 x6 x7 x8 x9 x10 x11 : Option D} {q : DQ} (hq : ∀ mx : Int, mx + 1 = (c : Nat) → q (.int mx) m) :
    dMaxV false dNil (dVar 4) [x0, x1, x2, x3, some (.ref p), x5, x6, x7, x8, x9, x10, x11] m q := by
  unfold dMaxV
  walk_at "rf"
  refine ⟨⟨p, rfl, .inl ⟨_, hp⟩⟩, p, ns.map (fun n => ((n : Nat) : Int)), none, rfl, .inl ⟨_, hp, kd_vals hN.len.symm⟩, .inl ⟨rfl, fun z => ?_⟩, fun mx hm => ?_⟩
  · have := congrArg List.length z
    rw [List.length_map, hN.len] at this
    exact ne (List.length_eq_zero_iff.mp this)
  · rcases hm with ⟨z, _⟩ | ⟨h1, h2⟩
    · have := congrArg List.length z
      rw [List.length_map, hN.len] at this
      exact absurd (List.length_eq_zero_iff.mp this) ne
    · exact hq mx (hN.max h1 h2)
end
theorem rdok_law_least {ds m q qe} (h : sp_law_least ds m q qe) : rd_law_least (fun cls _ m => qe cls m) (defEnds q) (startD N_law_least ds) m := by
  obtain ⟨d, e, e0, many, M, r, e1, e2, hr, ok, hq⟩ := sp2_at h
  clear h
  subst e0 e1 e2
  show rd_law_least _ (defEnds q) [some (machD M), some (natD r), none, none, none, none, none, none, none, none, none, none] m
  unfold rd_law_least
  walk_at "rf"
  refine ⟨many, M, r, mach_rooms ok, ok.cl, ok.four, ok.most, rfl, hr, fun a met ha him => ?_⟩
  have lw : LW many M (leastL M eqB met) r met := ⟨ok, hr, him, rfl⟩
  generalize hNN : leastL M eqB met = N at lw
  have okN := lw.okN
  have lenN := lw.len
  have few := lw.few
  have ne : met ≠ [] := by obtain ⟨t, ht⟩ := him.first; rw [ht]; simp
  have hA : (m.set a (.lst (met.map natD))) a = some (.lst (met.map natD)) := Mem.set_same
  have l1 : m.le (m.set a (.lst (met.map natD))) := Mem.le_set ha
  generalize m.set a (.lst (met.map natD)) = m1 at hA l1
  unfold rd_law_least_1
  walk_at "rf"
  rw [itOf_r hA]
  refine comp_nat (fun x => .ftup ((tA M x).map D.int)) hA _ _ (fun x hx K hK => ?_) (by exact sized (by simp; omega)) ?_
  · walk_at "rf"
    exact room_t ok (lw.mok.low x hx) hK
  rw [List.nil_append]
  intro b hb
  have l2 := Mem.le_set (o := .lst (met.map fun x => .ftup ((tA M x).map D.int))) hb
  refine ⟨List Int, inferInstance, pyT, b, a, _, met.map (tA M), met, rfl, Mem.set_same, rfl, l2 _ _ hA, ⟨paired_of (by rw [List.length_map, List.length_map]) fun n x y hx hy => ?_, eqv_pyT, shaped_tupInts, shaped_tups⟩, List.length_map .., lw.nd, few, fun p ns c hNum hp => ?_⟩
  · rw [List.getElem?_map] at hx hy
    cases hm : met[n]? with
    | none => rw [hm] at hx; cases hx
    | some z =>
      rw [hm] at hx hy
      cases hx
      cases hy
      intro m' _
      constructor <;> (show (pyWs _ ((tA M z).map D.int)).map PyData.tuple = _; rw [pyWs_ints]; rfl)
  have hNum0 : NumOf (Eqn many N N 0) met.length c ns := hNum.congr fun i j hi hj => by
    show (met.map (tA M))[i]? = (met.map (tA M))[j]? ↔ tA N i = tA N j
    rw [List.getElem?_map, List.getElem?_map, List.getElem?_eq_getElem hi, List.getElem?_eq_getElem hj, lw.t hi, lw.t hj, List.getD_eq_getElem?_getD, List.getD_eq_getElem?_getD, List.getElem?_eq_getElem hi, List.getElem?_eq_getElem hj]
    exact ⟨fun z => Option.some.inj z, fun z => congrArg some z⟩
  clear hNum
  have l3 := Mem.le_trans l2 (Mem.le_set (o := .dK (kdM met ns)) hp)
  unfold rd_law_least_2
  walk_at "rf"
  unfold rd_law_least_3
  walk_at "rf"
  refine ⟨fun n ρ m' => ∃ (d known c : Nat) (ns : List Nat) (p : Addr) (x3 x6 x7 : Option D), n = met.length - known ∧ NumOf (Eqn many N N d) met.length c ns ∧ known ≤ met.length ∧ (known = 0 ∨ ∃ d' prev, d = d' + 1 ∧ NumOf (Eqn many N N d') met.length known prev) ∧
    m1.le m' ∧ m' p = some (.dK (kdM met ns)) ∧ ρ = [some (machD M), some (natD r), some (.ref a), x3, some (.ref p), some (natD known), x6, x7, none, none, none, none],
    ⟨_, 0, 0, c, ns, p, _, _, _, rfl, hNum0, Nat.zero_le _, .inl rfl, l3, Mem.set_same, rfl⟩, ?_⟩
  clear hNum0 l3 hp hb l2
  rintro n ρ m' ⟨d, known, c, ns, p, x3, x6, x7, rfl, hN, hkn, hpr, hle, hp, rfl⟩
  have hlen := hN.len
  have cle := hN.le
  have c1 : 0 < c := Nat.lt_of_le_of_lt (Nat.zero_le _) (hN.low 0 (by rw [← lenN]; exact okN.few))
  walk_at "rf"
  refine maxV_kd _ hN hp ne fun mx hmx => ?_
  walk_at "rf"
  rw [hmx]
  by_cases hlt : known < c
  · rw [decide_eq_true (by omega)]
    walk_at "rf"
    unfold rd_law_least_3w
    walk_at "rf"
    refine maxV_kd _ hN hp ne fun mx2 hmx2 => ?_
    walk_at "rf"
    rw [hmx2]
    unfold rd_law_least_3w1
    walk_at "rf"
    rw [itOf_r (hle _ _ hA)]
    refine comp_g (fun j y M'' => ∃ cc, y = .tup [natD (ns.getD j 0), .ref cc] ∧ M'' cc = some (.lst (((rA N j).map fun x => ns.getD x 0).map natD))) (fun _ _ _ _ l ⟨cc, e, g⟩ => ⟨cc, e, l _ _ g⟩) (fun M'' l => l _ _ (hle _ _ hA)) _ (by exact sized (by simp; omega)) (fun j y hy M'' l K hK => ?_) (fun ys M'' l hys hR => ?_)
    · rw [List.getElem?_map] at hy
      have hj : j < met.length := by
        rcases Nat.lt_or_ge j met.length with z | z
        · exact z
        · rw [List.getElem?_eq_none z] at hy; cases hy
      have ey : y = natD (met.getD j 0) := by
        rw [List.getElem?_eq_getElem hj] at hy
        rw [List.getD_eq_getElem?_getD, List.getElem?_eq_getElem hj]
        exact (Option.some.inj hy).symm
      subst ey
      walk_at "rf"
      refine lw.kind (l _ _ hp) hlen hj ?_
      refine room_r ok (lw.low hj) ?_
      walk_at "rf"
      refine lw.row (l _ _ hp) hlen hj ?_
      intro cc hcc
      exact ⟨by walk_at "sz", hK _ _ (Mem.le_set hcc) ⟨cc, rfl, Mem.set_same⟩⟩
    · rw [List.length_map] at hys
      intro b2 hb2
      have l4 := Mem.le_set (o := .lst ys) hb2
      unfold rd_law_least_3w2
      walk_at "rf"
      refine ⟨Nat × List Nat, inferInstance, pyB, b2, a, ys, (List.range met.length).map (fun j => (ns.getD j 0, (rA N j).map fun x => ns.getD x 0)), met, rfl, Mem.set_same, rfl, l4 _ _ (l _ _ (hle _ _ hA)), ⟨paired_of (by rw [List.length_map, List.length_range, hys]) fun j x y hx hy => ?_, eqv_pyB, shaped_B, shaped_Bs⟩, by rw [List.length_map, List.length_range], lw.nd, few, fun p2 ns2 c2 hN2 hp2 => ?_⟩
      · rw [List.getElem?_map] at hy
        have hj : j < met.length := by
          rcases Nat.lt_or_ge j met.length with z | z
          · exact z
          · rw [List.getElem?_eq_none (by rw [List.length_range]; exact z)] at hy; cases hy
        rw [List.getElem?_range hj] at hy
        cases hy
        obtain ⟨cc, rfl, g⟩ := hR j x hx
        exact pyAt_B (l4 _ _ g)
      · have hN3 : NumOf (Eqn many N N (d + 1)) met.length c2 ns2 := hN2.congr fun i j hi hj => by
          show ((List.range met.length).map _)[i]? = ((List.range met.length).map _)[j]? ↔ _
          rw [List.getElem?_map, List.getElem?_map, List.getElem?_range hi, List.getElem?_range hj]
          show some (_, _) = some (_, _) ↔ _
          have := Eqn.pair okN.cl (by rw [lenN]; exact hN) (i := i) (j := j) (by rw [lenN]; exact hi) (by rw [lenN]; exact hj)
          rw [← this, pairK_inj, Option.some.injEq, Prod.mk.injEq]
        refine dn_here ⟨met.length - c, by omega, d + 1, c, c2, ns2, p2, _, _, _, rfl, hN3, cle, .inr ⟨d, ns, rfl, hN⟩, Mem.le_trans hle (Mem.le_trans l (Mem.le_trans l4 (Mem.le_set hp2))), Mem.set_same, rfl⟩
  · rw [decide_eq_false (by omega)]
    walk_at "rf"
    obtain ⟨d', prev, rfl, hP⟩ := hpr.resolve_left (by omega)
    have same := hP.same hN (fun i j hi hj e => e.down) (by omega)
    have kc : known = c := by have := hP.lef hN (fun i j hi hj e => e.down); omega
    subst kc
    have hQ : NumOf (Eqv many N N) N.length known ns := by
      rw [lenN]
      refine hN.congr fun i j hi hj => ⟨fun e => Eqn.stop okN.cl (fun i j hi hj => same i j (by rw [← lenN]; exact hi) (by rw [← lenN]; exact hj)) i j (by rw [lenN]; exact hi) (by rw [lenN]; exact hj) e.down, fun e => e _⟩
    unfold rd_law_least_4
    walk_at "rf"
    have k0 : known ≤ 60 := by omega
    refine ⟨by omega, by omega, ?_⟩
    have rl : (rngD 0 known).length = known := rngD_length ..
    refine comp_g (fun v y _ => y = natD (met.getD (fiN ns v) 0)) (fun _ _ _ _ _ h => h) (fun _ _ => trivial) _ (by rw [rl]; exact sized (by omega)) (fun v y hy M1 l K hK => ?_) (fun ys M1 l hys hR => ?_)
    · have hv : v < known := by
        rcases Nat.lt_or_ge v known with z | z
        · exact z
        · rw [List.getElem?_eq_none (by rw [rl]; exact z)] at hy; cases hy
      have ey : y = natD v := by
        unfold rngD at hy
        rw [List.getElem?_map, List.getElem?_range hv] at hy
        have := Option.some.inj hy
        rw [← this]
        show D.int (0 + ((v : Nat) : Int)) = _
        rw [Int.zero_add]
      subst ey
      walk_at "rf"
      rw [itOf_r (l _ _ (hle _ _ hA))]
      refine comp_filterL (fun d => match d with | .int x => decide (ns.getD (idxR eqB met x.toNat) 0 = v) | _ => false) (fun M2 l' => l' _ _ (l _ _ (hle _ _ hA))) _ [] (fun d hd M2 l' K' hK' => ?_) (fun d hd M2 l' K' hK' => ?_) (by rw [List.length_map]; exact sized (by simp; omega)) (fun M2 l' => ?_) _ (Mem.le_refl _)
      · obtain ⟨x, hx, rfl⟩ := List.mem_map.mp hd
        obtain ⟨i, hi, ei⟩ := List.mem_iff_getElem.mp hx
        have ex : x = met.getD i 0 := by rw [List.getD_eq_getElem?_getD, List.getElem?_eq_getElem hi]; exact ei.symm
        subst ex
        walk_at "rf"
        refine lw.kind (l' _ _ (l _ _ hp)) hlen hi ?_
        walk_at "rf"
        have := hK' M2 l'
        have eb : (((ns.getD i 0 : Nat) : Int) == ((v : Nat) : Int)) = decide (ns.getD (idxR eqB met (met.getD i 0)) 0 = v) := by
          rw [lw.self hi]
          by_cases h : ns.getD i 0 = v
          · rw [decide_eq_true h, h]; simp
          · rw [decide_eq_false h, beq_eq_false_iff_ne]; omega
        rw [eb]
        exact this
      · walk_at "rf"
        exact hK'
      · rw [List.nil_append, List.filter_map]
        intro cc hcc
        walk_at "rf"
        have hd := head_fi (P := fun x => decide (ns.getD (idxR eqB met x) 0 = v)) hlen.symm (fun i hi => by rw [lw.self hi]) (v := v) (by have := (fi_ok hQ hv).1; omega)
        have hd' : (List.map natD (List.filter ((fun d => match d with | .int x => decide (ns.getD (idxR eqB met x.toNat) 0 = v) | _ => false) ∘ natD) met))[0]? = some (natD (met.getD (fiN ns v) 0)) := by
          rw [List.getElem?_map]
          show Option.map natD (List.filter (fun x => decide (ns.getD (idxR eqB met x) 0 = v)) met)[0]? = _
          rw [hd]; rfl
        rw [ixG_L Mem.set_same (show atI _ 0 = some (natD (met.getD (fiN ns v) 0)) from atI_nat (j := 0) hd')]
        exact hK _ _ (Mem.le_trans l' (Mem.le_set hcc)) rfl
    · rw [rl] at hys
      intro b9 hb9
      have l5 := Mem.le_set (o := .lst ys) hb9
      unfold rd_law_least_5
      walk_at "rf"
      rw [itOf_r Mem.set_same]
      have hb9v : (M1.set b9 (.lst ys)) b9 = some (.lst ys) := Mem.set_same
      have l6 := Mem.le_trans hle (Mem.le_trans l l5)
      have hp6 := l5 _ _ (l _ _ hp)
      refine comp_g (fun v y M2 => ∃ cc, y = .tup [.ftup ((tA (quoM N ns known) v).map D.int), .ref cc] ∧ M2 cc = some (.lst ((rA (quoM N ns known) v).map natD))) (fun _ _ _ _ l ⟨cc, e, g⟩ => ⟨cc, e, l _ _ g⟩) (fun M2 l' => l' _ _ hb9v) _ (by rw [hys]; exact sized (by omega)) (fun v y hy M2 l' K hK => ?_) (fun zs M2 l' hzs hZ => ?_)
      · have hv : v < known := by
          rcases Nat.lt_or_ge v known with z | z
          · exact z
          · have hy' : ys[v]? = some y := hy
            rw [List.getElem?_eq_none (by rw [hys]; exact z)] at hy'; cases hy'
        have ey := hR v y hy
        subst ey
        obtain ⟨f1, f2⟩ := fi_ok hQ hv
        rw [lenN] at f1
        walk_at "rf"
        refine room_t ok (lw.low f1) ?_
        walk_at "rf"
        refine room_r ok (lw.low f1) ?_
        walk_at "rf"
        refine lw.row (l' _ _ hp6) hlen f1 ?_
        intro cc hcc
        refine ⟨by walk_at "sz", hK _ _ (Mem.le_set hcc) ⟨cc, ?_, ?_⟩⟩
        · rw [quo_t hv, lw.t f1]
        · rw [Mem.set_same, quo_r hv]
      · intro b10 hb10
        have l7 := Mem.le_set (o := .lst zs) hb10
        unfold rd_law_least_6
        walk_at "rf"
        have h0 : 0 < met.length := List.length_pos_iff.mpr ne
        have er : r = met.getD 0 0 := by obtain ⟨t, ht⟩ := him.first; rw [ht]; rfl
        have hk0 : ns.getD 0 0 < (quoM N ns known).length := by rw [quo_len]; exact hQ.low 0 okN.few
        have go : ∀ {q : DQ}, q (natD (ns.getD 0 0)) (M2.set b10 (.lst zs)) → ixG (.ref p) (natD r) (M2.set b10 (.lst zs)) q := fun {q} hq => by
          have := lw.kind (l7 _ _ (l' _ _ hp6)) hlen h0 hq
          rw [← er] at this
          exact this
        refine go ⟨many, quoM N ns known, ns.getD 0 0, ⟨zs, .inr ⟨b10, rfl, Mem.set_same⟩, fun i hi => ?_⟩, quo_cl okN.cl hQ, ok.four, by rw [quo_len]; omega, rfl, hk0, fun a2 pl ha2 hpl => ?_⟩
        · rw [quo_len] at hi
          have hz : i < zs.length := by rw [hzs, hys]; exact hi
          obtain ⟨cc, e, g⟩ := hZ i zs[i] (List.getElem?_eq_getElem hz)
          exact ⟨.ref cc, by rw [List.getElem?_eq_getElem hz, e], .inr ⟨cc, rfl, l7 _ _ g⟩⟩
        · have eL := quo_lea ok hr him hNN.symm okN hQ hpl
          have l8 := Mem.le_set (o := .lst (pl.map natD)) ha2
          have hA2 : ((M2.set b10 (.lst zs)).set a2 (.lst (pl.map natD))) a2 = some (.lst (pl.map natD)) := Mem.set_same
          have hB2 : ((M2.set b10 (.lst zs)).set a2 (.lst (pl.map natD))) b10 = some (.lst zs) := l8 _ _ Mem.set_same
          have hall : m.le ((M2.set b10 (.lst zs)).set a2 (.lst (pl.map natD))) := Mem.le_trans l1 (Mem.le_trans l6 (Mem.le_trans l' (Mem.le_trans l7 l8)))
          have hZ2 : ∀ v, v < known → ∃ cc, zs[v]? = some (.tup [.ftup ((tA (quoM N ns known) v).map D.int), .ref cc]) ∧ ((M2.set b10 (.lst zs)).set a2 (.lst (pl.map natD))) cc = some (.lst ((rA (quoM N ns known) v).map natD)) := fun v hv => by
            have hz : v < zs.length := by rw [hzs, hys]; exact hv
            obtain ⟨cc, e, g⟩ := hZ v zs[v] (List.getElem?_eq_getElem hz)
            exact ⟨cc, by rw [List.getElem?_eq_getElem hz, e], l8 _ _ (l7 _ _ g)⟩
          generalize (M2.set b10 (.lst zs)).set a2 (.lst (pl.map natD)) = M3 at hA2 hB2 hall hZ2
          have plok := hpl.ok (quo_cl okN.cl hQ) hk0
          have plfew := plok.few eqB_rf
          rw [quo_len] at plfew
          unfold rd_law_least_7
          walk_at "rf"
          rw [itOf_r hA2]
          refine comp_nat (fun v => .tup [.ftup ((tA (quoM N ns known) v).map D.int), .tup ((rA (quoM N ns known) v).map fun to => natD (idxR eqB pl to))]) hA2 _ _ (fun v hv K hK => ?_) (by exact sized (by simp; omega)) ?_
          · have hvk : v < known := by have := plok.low v hv; rwa [quo_len] at this
            obtain ⟨cc, e, g⟩ := hZ2 v hvk
            walk_at "rf"
            rw [ixG_L hB2 (atI_nat e), ixG_t (at20 _ _), ixG_L hB2 (atI_nat e), ixG_t (at21 _ _)]
            rw [itOf_r g]
            refine comp_nat (fun to => natD (idxR eqB pl to)) g _ _ (fun to hto K' hK' => ?_) ?_ ?_
            · walk_at "rf"
              have hin : to ∈ pl := by
                obtain ⟨j, hj, ej⟩ := List.mem_iff_getElem.mp hv
                have := hpl.closed' eqB_rf hj (to := to) (by rw [List.getD_eq_getElem?_getD, List.getElem?_eq_getElem hj, Option.getD_some, ej]; exact hto)
                obtain ⟨y, hy, e⟩ := List.any_eq_true.mp this
                rw [← of_decide_eq_true (p := y = to) e]; exact hy
              exact ⟨⟨a2, _, rfl, hA2⟩, lidx_of (k := to) (pyD_refNs hA2) rfl (shaped_Ns pl) (shaped_N to) eqv_pyN hin hK'⟩
            · rw [(quo_cl okN.cl hQ).len v (by rw [quo_len]; exact hvk)]
              exact sized (by simp; have := ok.four; omega)
            · exact ⟨by walk_at "sz", hK⟩
          · refine defEnds_le hall ?_
            rw [eL] at hq
            have := hq
            unfold machD leastL at this
            rw [List.map_map] at this
            rw [List.nil_append]
            have e : (pl.map fun x => D.tup [.ftup ((tA (quoM N ns known) x).map D.int), .tup ((rA (quoM N ns known) x).map fun to => natD (idxR eqB pl to))]) = pl.map (roomD ∘ fun x => (tA (quoM N ns known) x, (rA (quoM N ns known) x).map fun to => ((idxR eqB pl to : Nat) : Int))) := by
              refine List.map_congr_left fun x _ => ?_
              show _ = roomD _
              unfold roomD
              dsimp only
              rw [List.map_map]; rfl
            rw [e]
            exact this

theorem inA_bools {c : Addr} {m : Mem} {bs : List Bool} {q : DQ} (h : m c = some (.lst (bs.map D.bl))) (hq : q (.bl (!bs.all _root_.id)) m) : inA false (.bl false) (.ref c) m q := by
  have hp : ∀ (f : Addr → Option PyData) (bs : List Bool), pyWs f (bs.map D.bl) = some (bs.map PyData.bool) := fun f bs => by
    induction bs with
    | nil => rfl
    | cons b bs ih => rw [List.map_cons, pyWs, ih]; rfl
  have e : pyD m (.ref c) = some (.list (bs.map PyData.bool)) := by
    show pyA m 3 c = _
    unfold pyA
    rw [h]
    dsimp only
    rw [hp]
    rfl
  have lay : ∀ bs : List Bool, PyData.canLayAll0 (bs.map PyData.bool) = true ∧ PyData.depthAll (bs.map PyData.bool) = 0 := fun bs => by
    induction bs with
    | nil => exact ⟨by simp [PyData.canLayAll0], by simp [PyData.depthAll]⟩
    | cons b bs ih => rw [List.map_cons]; simp [PyData.canLayAll0, PyData.depthAll, PyData.canLay0, PyData.depth, ih]
  have an : ∀ bs : List Bool, ((bs.map PyData.bool).any fun z => PyData.eqv z (.bool false)) = !bs.all _root_.id := fun bs => by
    induction bs with
    | nil => rfl
    | cons b bs ih => rw [List.map_cons, List.any_cons, ih, List.all_cons]; cases b <;> rfl
  unfold inA
  rw [e]
  show SeqAt.shaped (.bool false) = true ∧ SeqAt.shaped (.list (bs.map .bool)) = true ∧ q (.bl ((bs.map PyData.bool).any fun z => PyData.eqv z (.bool false))) m
  rw [an]
  refine ⟨by decide, ?_, hq⟩
  unfold SeqAt.shaped
  simp [PyData.canLay0, PyData.depth, lay bs]
/-! ### the law -/
theorem sub_nodup {α : Type} (P : α → Prop) : ∀ U : List α, ∃ V : List α, V.Nodup ∧ ∀ x, x ∈ V ↔ x ∈ U ∧ P x
  | [] => ⟨[], List.nodup_nil, fun x => by simp⟩
  | y :: U => by
    obtain ⟨V, nd, h⟩ := sub_nodup P U
    by_cases hy : P y ∧ y ∉ V
    · refine ⟨y :: V, List.nodup_cons.mpr ⟨hy.2, nd⟩, fun x => ?_⟩
      rw [List.mem_cons, List.mem_cons, h x]
      constructor
      · rintro (rfl | ⟨a, b⟩)
        · exact ⟨.inl rfl, hy.1⟩
        · exact ⟨.inr a, b⟩
      · rintro ⟨rfl | a, b⟩
        · exact .inl rfl
        · exact .inr ⟨a, b⟩
    · refine ⟨V, nd, fun x => ?_⟩
      rw [List.mem_cons, h x]
      constructor
      · rintro ⟨a, b⟩; exact ⟨.inr a, b⟩
      · rintro ⟨rfl | a, b⟩
        · refine (h x).mp (Classical.byContradiction fun z => hy ⟨b, z⟩)
        · exact ⟨a, b⟩
section
variable {k : Nat} {Ms U : List Mach}
theorem due_exists (ok : MsOk k Ms U) : ∃ Os : List Mach, Os.Nodup ∧ ∀ L, L ∈ Os ↔ Due k Ms L := by
  obtain ⟨V, nd, h⟩ := sub_nodup (Due k Ms) U
  exact ⟨V, nd, fun L => (h L).trans ⟨fun z => z.2, fun z => ⟨ok.u L z.led, z⟩⟩⟩
theorem dueL_is (ok : MsOk k Ms U) (L : Mach) : L ∈ dueL k Ms ↔ Due k Ms L := by
  obtain ⟨Os, nd, h⟩ := due_exists ok
  exact dueL_mem nd h L
theorem dueL_few (ok : MsOk k Ms U) : (dueL k Ms).length ≤ 59 := by
  obtain ⟨Os, nd, h⟩ := due_exists ok
  rw [dueL_of nd h, List.length_mergeSort]
  have := nd_len nd (ys := U) fun L z => ok.u L ((h L).mp z).led
  have := ok.small
  omega
theorem dueL_lea (ok : MsOk k Ms U) : ∀ L ∈ dueL k Ms, IsLea k L := fun L z => ok.lea ((dueL_is ok L).mp z).led
theorem dueL_twice (ok : MsOk k Ms U) : dueL k (dueL k Ms) = dueL k Ms := by
  obtain ⟨Os, nd, h⟩ := due_exists ok
  rw [dueL_of (k := k) (Ms := dueL k Ms) nd fun L => (h L).trans (due_again ok.ok (dueL_is ok) L).symm, ← dueL_of nd h]
theorem dueL_ok (ok : MsOk k Ms U) : MsOk k (dueL k Ms) U := by
  have hl := dueL_lea ok
  refine ⟨fun M z => (hl M z).mach, ok.two, ok.four, by have := dueL_few ok; omega, fun L l => ?_, ok.small⟩
  rw [leasts_self hl] at l
  exact ok.u L (l.mono fun N z => ((dueL_is ok N).mp z).led)
theorem dueL_ne (ok : MsOk k Ms U) (ne : Ms ≠ []) : dueL k Ms ≠ [] := fun z => by
  obtain ⟨L, h⟩ := home_exists ok ne
  have := (dueL_is ok L).mpr h.due
  rw [z] at this
  cases this
end
section
variable {P_come_again : Addr} {M : Mem} {E : DEnds} {we : DWX} {w r8 : Addr} {many : Nat} {Ms U : List Mach} {x0 x1 x2 x3 x4 x5 x6 x8 x9 x10 x11 x12 x13 : Option D}
theorem first_m (hw : M w = some (.lst (Ms.map machD))) (ne : Ms ≠ []) {q : DQ} (hq : ∀ M0 ∈ Ms, q (machD M0) M) : ixD (.ref w) (.int 0) M q := by
  obtain ⟨M0, Mr, rfl⟩ := List.exists_cons_of_ne_nil ne
  rw [ixD_r hw (show atI ((M0 :: Mr).map machD) 0 = some (machD M0) from atI_nat (j := 0) rfl)]
  exact hq M0 List.mem_cons_self
theorem law_14 (hP : M P_come_again = some (.tbl (lamQ "come_again"))) (hw : M w = some (.lst (Ms.map machD))) (h8 : M r8 = some (.lst ((dueL many Ms).map machD))) (ok : MsOk many Ms U) (ne : Ms ≠ []) (hq : ∀ M' x12 x13, M.le M' → E.nx [x0, x1, x2, x3, x4, x5, x6, some (.ref w), some (.ref r8), x9, x10, x11, x12, x13] M') :
    rd_law_0f14 P_come_again we E [x0, x1, x2, x3, x4, x5, x6, some (.ref w), some (.ref r8), x9, x10, x11, x12, x13] M := by
  unfold rd_law_0f14
  walk_at "rf"
  refine listD_at h8 fun b12 hb12 => ?_
  have l1 := Mem.le_set (o := .lst ((dueL many Ms).map machD)) hb12
  unfold rd_law_0f15
  walk_at "rf"
  refine ⟨many, dueL many Ms, U, .inr ⟨r8, rfl, l1 _ _ h8⟩, dueL_ok ok, dueL_ne ok ne, l1 _ _ hP, fun r13 M2 l2 h13 at13 => ?_⟩
  rw [dueL_twice ok] at at13
  have l12 := Mem.le_trans l1 l2
  unfold rd_law_0f16
  walk_at "rf"
  refine ⟨many, Ms, U, .inr ⟨w, rfl, l12 _ _ hw⟩, ok, ne, l12 _ _ hP, fun r14 M3 l3 h14 at14 => ?_⟩
  have l13 := Mem.le_trans l12 l3
  dsimp only
  refine neD_machs at14 (l13 _ _ h8) ?_
  walk_at "rf"
  refine neD_machs (l3 _ _ at13) (l13 _ _ h8) ?_
  walk_at "rf"
  unfold rd_law_0f17
  walk_at "rf"
  refine ⟨⟨r13, _, rfl, l3 _ _ at13⟩, first_m (l13 _ _ hw) ne fun M0 _ => ?_⟩
  rw [appendD_r (l3 _ _ at13)]
  have h13m : M r13 = none := Mem.le_none l1 h13
  have few := dueL_few ok
  refine ⟨by rw [List.length_map]; exact sized' (by omega), ?_⟩
  unfold rd_law_0f18
  walk_at "rf"
  have n8 : r8 ≠ r13 := Mem.live_ne h8 h13m
  have n12 : b12 ≠ r13 := Mem.live_ne Mem.set_same h13
  refine neD_machs (ms := dueL many Ms) (by rw [Mem.set_ne n8]; exact l13 _ _ h8) (by rw [Mem.set_ne n12]; exact l3 _ _ (l2 _ _ Mem.set_same)) ?_
  walk_at "rf"
  exact hq _ _ _ (Mem.le_set_of l13 h13m)
theorem law_9 {d9 : D} (hP : M P_come_again = some (.tbl (lamQ "come_again"))) (hw : M w = some (.lst (Ms.map machD))) (h8 : M r8 = some (.lst ((dueL many Ms).map machD))) (hs : SeqM M d9 Ms) (ok : MsOk many Ms U) (ne : Ms ≠ []) (hq : ∀ M' x10 x11 x12 x13, M.le M' → E.nx [x0, x1, x2, x3, x4, x5, x6, some (.ref w), some (.ref r8), some d9, x10, x11, x12, x13] M') :
    rd_law_0f9 P_come_again we E [x0, x1, x2, x3, x4, x5, x6, some (.ref w), some (.ref r8), some d9, x10, x11, x12, x13] M := by
  have few := dueL_few ok
  unfold rd_law_0f9
  walk_at "rf"
  refine ⟨many, Ms, U, hs, ok, ne, hP, fun r10 M1 l1 h10 at10 => ?_⟩
  unfold rd_law_0f10
  walk_at "rf"
  have hls : ∀ {q : List D → Mem → Prop}, q (Ms.map machD) M1 → listD d9 M1 q := fun {q} hk => by
    rcases hs.le l1 with rfl | ⟨a, rfl, ha⟩
    · exact hk
    · exact listD_at ha hk
  refine hls fun c hc => ?_
  have l2 := Mem.le_trans l1 (Mem.le_set (o := .lst (Ms.map machD)) hc)
  have lc := Mem.le_set (o := .lst (Ms.map machD)) hc
  refine neD_machs (ms := Ms) Mem.set_same (l2 _ _ hw) ?_
  walk_at "rf"
  unfold rd_law_0f11
  walk_at "rf"
  have h10c := lc _ _ at10
  generalize M1.set c (.lst (Ms.map machD)) = M2 at l2 h10c
  have hisi : ∀ {q : DQ}, q (.bl true) M2 → isiD [.ref r10, .ty "list"] M2 q := fun {q} hq => by
    unfold isiD tyS
    dsimp only
    rw [h10c]
    exact hq
  refine hisi ?_
  walk_at "rf"
  refine neD_machs h10c (l2 _ _ h8) ?_
  walk_at "rf"
  rw [itOf_r h10c]
  refine comp_map (fun _ => .bl true) h10c _ [] (fun d hd K hK => ?_) (by rw [List.length_map]; exact sized (by simp; omega)) ?_
  · obtain ⟨L, hL, rfl⟩ := List.mem_map.mp hd
    walk_at "rf"
    exact ⟨many, L, rfl, (dueL_lea ok L hL).mach, hK⟩
  · rw [List.nil_append, List.map_map]
    intro c2 hc2
    have e : (dueL many Ms).map ((fun _ => D.bl true) ∘ machD) = ((dueL many Ms).map fun _ => true).map D.bl := by rw [List.map_map]; rfl
    rw [e]
    refine inA_bools Mem.set_same ?_
    rw [all_true]
    walk_at "rf"
    have l3 := Mem.le_trans l2 (Mem.le_set (o := .lst (((dueL many Ms).map fun _ => true).map D.bl)) hc2)
    have h10d := (Mem.le_set (o := .lst (((dueL many Ms).map fun _ => true).map D.bl)) hc2) _ _ h10c
    generalize M2.set c2 (.lst (((dueL many Ms).map fun _ => true).map D.bl)) = M3 at l3 h10d
    unfold rd_law_0f12
    walk_at "rf"
    refine ⟨⟨r10, _, rfl, h10d⟩, ?_⟩
    unfold reverseD
    refine ⟨_, h10d, ?_⟩
    unfold rd_law_0f13
    walk_at "rf"
    have n7 : w ≠ r10 := Mem.live_ne hw h10
    have n8 : r8 ≠ r10 := Mem.live_ne h8 h10
    refine ⟨⟨r10, _, rfl, Mem.set_same⟩, first_m (by rw [Mem.set_ne n7]; exact l3 _ _ hw) ne fun M0 _ => ?_⟩
    rw [appendD_r Mem.set_same]
    refine ⟨by rw [List.length_reverse, List.length_map]; exact sized' (by omega), ?_⟩
    have l4 := Mem.le_set_of (o := .lst (((dueL many Ms).map machD).reverse ++ [machD M0])) (Mem.le_set_of (o := .lst ((dueL many Ms).map machD).reverse) l3 h10) h10
    exact law_14 (l4 _ _ hP) (l4 _ _ hw) (l4 _ _ h8) ok ne fun M' _ _ l => hq _ _ _ _ _ (Mem.le_trans l4 l)
theorem law_7 {t : Bool} (hP : M P_come_again = some (.tbl (lamQ "come_again"))) (hw : M w = some (.lst (Ms.map machD))) (ok : MsOk many Ms U) (ne : Ms ≠ []) (hq : ∀ M' x8 x9 x10 x11 x12 x13, M.le M' → E.nx [x0, x1, x2, x3, some (.bl t), x5, x6, some (.ref w), x8, x9, x10, x11, x12, x13] M') :
    rd_law_0f7 P_come_again we E [x0, x1, x2, x3, some (.bl t), x5, x6, some (.ref w), x8, x9, x10, x11, x12, x13] M := by
  unfold rd_law_0f7
  walk_at "rf"
  refine ⟨many, Ms, U, .inr ⟨w, rfl, hw⟩, ok, fun r8 M1 l1 h8 at8 => ?_⟩
  unfold rd_law_0f8
  walk_at "rf"
  cases t with
  | true =>
    walk_at "rf"
    rw [tupleD_r (l1 _ _ hw)]
    exact law_9 (l1 _ _ hP) (l1 _ _ hw) at8 (.inl rfl) ok ne fun M' _ _ _ _ l => hq _ _ _ _ _ _ _ (Mem.le_trans l1 l)
  | false =>
    walk_at "rf"
    refine listD_at (l1 _ _ hw) fun c hc => ?_
    have l2 := Mem.le_set (o := .lst (Ms.map machD)) hc
    exact law_9 (l2 _ _ (l1 _ _ hP)) (l2 _ _ (l1 _ _ hw)) (l2 _ _ at8) (.inr ⟨c, rfl, Mem.set_same⟩) ok ne fun M' _ _ _ _ l => hq _ _ _ _ _ _ _ (Mem.le_trans l1 (Mem.le_trans l2 l))
end
theorem DrS.le {M M' : Mem} {a : Addr} (h : DrS M M' a) (ha : M a = none) : M.le M' := let ⟨_, l⟩ := h.ex; Mem.le_trans (Mem.le_set ha) l
section
variable {P_come_again : Addr} {m : Mem} {qe : DWX} {q : DQ} {sc : List Int} {k : Nat} {x2 x3 x4 x5 x6 x7 x8 x9 x10 x11 x12 x13 : Option D} {E : DEnds}
theorem ms_ok {many : Nat} {Ms : List Mach} (two : 2 ≤ many) (three : many ≤ 3) (h : ∀ M ∈ Ms, IsMach many M ∧ M.length ≤ 6) (few : Ms.length ≤ 5) : MsOk many Ms (allL many Ms) := by
  have := allL_len (k := many) (Ms := Ms) (b := 6) fun M z => (h M z).2
  exact ⟨fun M z => (h M z).1, two, by omega, by omega, fun L l => led_in (fun M z => (h M z).1) l, by omega⟩
theorem law_6 {M : Mem} {a w : Addr} {tw : Int} {t : Bool} {many : Nat} {Ms : List Mach} (two : 2 ≤ many) (three : many ≤ 3) (hd : DrS m M a) (ha : m a = none) (hP : m P_come_again = some (.tbl (lamQ "come_again"))) (gw : M w = some (.lst (Ms.map machD))) (w0 : m w = none) (nwa : w ≠ a)
    (hM : ∀ M ∈ Ms, IsMach many M ∧ M.length ≤ 6) (few : Ms.length ≤ 4) (ne : Ms ≠ []) (hq : ∀ M' x2 x3 x4 x5 x6 x7 x8 x9 x10 x11 x12 x13, m.le M' → E.nx [some (.rol (sc.map D.int)), some (natD k), x2, x3, x4, x5, x6, x7, x8, x9, x10, x11, x12, x13] M') :
    rd_law_0f6 P_come_again qe E [some (.rol (sc.map D.int)), some (natD k), some (.ref a), some (.int tw), some (.bl t), x5, x6, some (.ref w), x8, x9, x10, x11, x12, x13] M := by
  unfold rd_law_0f6
  by_cases h2 : tw = 2
  · subst h2
    walk_at "rf"
    refine ⟨⟨w, _, rfl, gw⟩, first_m gw ne fun M0 h0 => ?_⟩
    obtain ⟨ok0, l0⟩ := hM M0 h0
    refine ⟨many, M0, 0, rfl, rfl, ok0.few, ok0, ?_⟩
    dsimp only
    rw [appendD_r gw]
    refine ⟨by rw [List.length_map]; exact sized' (by omega), ?_⟩
    have d2 := hd.upd (o := .lst (Ms.map machD ++ [machD (lea many M0 0)])) w0 nwa
    have gw2 : (M.set w (.lst (Ms.map machD ++ [machD (lea many M0 0)]))) w = some (.lst ((Ms ++ [lea many M0 0]).map machD)) := by rw [Mem.set_same, List.map_append]; rfl
    refine law_7 (d2.le ha _ _ hP) gw2 (ms_ok two three (fun M z => ?_) (by rw [List.length_append, List.length_singleton]; omega)) (by simp) fun M' _ _ _ _ _ _ l => hq _ _ _ _ _ _ _ _ _ _ _ _ _ (Mem.le_trans (d2.le ha) l)
    rcases List.mem_append.mp z with z | z
    · exact hM M z
    · rw [List.mem_singleton.mp z]
      exact ⟨lea_mach ok0 ok0.few, Nat.le_trans (lea_le ok0.cl ok0.few) l0⟩
  · walk_at "rf"
    rw [if_neg (by simpa using h2)]
    exact law_7 (hd.le ha _ _ hP) gw (ms_ok two three hM (by omega)) ne fun M' _ _ _ _ _ _ l => hq _ _ _ _ _ _ _ _ _ _ _ _ _ (Mem.le_trans (hd.le ha) l)
theorem law_5 {M : Mem} {a w : Addr} {tw : Int} {t : Bool} {many : Nat} {Ms : List Mach} (two : 2 ≤ many) (three : many ≤ 3) (hd : DrS m M a) (ha : m a = none) (hP : m P_come_again = some (.tbl (lamQ "come_again"))) (gw : M w = some (.lst (Ms.map machD))) (w0 : m w = none) (nwa : w ≠ a)
    (hM : ∀ M ∈ Ms, IsMach many M ∧ M.length ≤ 6) (few : Ms.length ≤ 3) (ne : Ms ≠ []) (hq : ∀ M' x2 x3 x4 x5 x6 x7 x8 x9 x10 x11 x12 x13, m.le M' → E.nx [some (.rol (sc.map D.int)), some (natD k), x2, x3, x4, x5, x6, x7, x8, x9, x10, x11, x12, x13] M') :
    rd_law_0f5 P_come_again qe E [some (.rol (sc.map D.int)), some (natD k), some (.ref a), some (.int tw), some (.bl t), x5, x6, some (.ref w), x8, x9, x10, x11, x12, x13] M := by
  unfold rd_law_0f5
  by_cases h1 : tw = 1
  · subst h1
    walk_at "rf"
    refine ⟨⟨w, _, rfl, gw⟩, first_m gw ne fun M0 h0 => ?_⟩
    rw [appendD_r gw]
    refine ⟨by rw [List.length_map]; exact sized' (by omega), ?_⟩
    have gw2 : (M.set w (.lst (Ms.map machD ++ [machD M0]))) w = some (.lst ((Ms ++ [M0]).map machD)) := by rw [Mem.set_same, List.map_append]; rfl
    refine law_6 two three (hd.upd w0 nwa) ha hP gw2 w0 nwa (fun M z => ?_) (by rw [List.length_append, List.length_singleton]; omega) (by simp) hq
    rcases List.mem_append.mp z with z | z
    · exact hM M z
    · rw [List.mem_singleton.mp z]; exact hM M0 h0
  · walk_at "rf"
    rw [if_neg (by simpa using h1)]
    exact law_6 two three hd ha hP gw w0 nwa hM (by omega) ne hq
theorem law_body (hk : k ≤ 100) (hP : m P_come_again = some (.tbl (lamQ "come_again"))) (hq : ∀ M' x2 x3 x4 x5 x6 x7 x8 x9 x10 x11 x12 x13, m.le M' → E.nx [some (.rol (sc.map D.int)), some (natD k), x2, x3, x4, x5, x6, x7, x8, x9, x10, x11, x12, x13] M') :
    rd_law_0f P_come_again qe E [some (.rol (sc.map D.int)), some (natD k), x2, x3, x4, x5, x6, x7, x8, x9, x10, x11, x12, x13] m := by
  unfold rd_law_0f
  walk_at "rf"
  refine ⟨sc, k, rfl, rfl, by omega, fun n a ha => ?_⟩
  have d0 : DrS m (m.set a (.lst [.int n])) a := ⟨n, Mem.le_refl _⟩
  have ga : (m.set a (.lst [.int n])) a = some (.lst [.int n]) := Mem.set_same
  generalize m.set a (.lst [.int n]) = m1 at d0 ga
  unfold rd_law_0f1
  walk_at "rf"
  refine ⟨a, n, 4, rfl, ga, rfl, by decide, by decide, fun tw n1 tw0 tw1 => ?_⟩
  have d1 := d0.draw n1
  have ga : (m1.set a (.lst [.int n1])) a = some (.lst [.int n1]) := Mem.set_same
  generalize m1.set a (.lst [.int n1]) = m2 at d1 ga
  unfold rd_law_0f2
  walk_at "rf"
  refine ⟨a, n1, 2, rfl, ga, rfl, by decide, by decide, fun tp n2 tp0 tp1 => ?_⟩
  have d2 := d1.draw n2
  have ga : (m2.set a (.lst [.int n2])) a = some (.lst [.int n2]) := Mem.set_same
  generalize m2.set a (.lst [.int n2]) = m3 at d2 ga
  walk_at "rf"
  generalize (tp == 0) = t
  unfold rd_law_0f3
  walk_at "rf"
  refine ⟨a, n2, 2, rfl, ga, rfl, by decide, by decide, fun mm n3 mm0 mm1 => ?_⟩
  have d3 := d2.draw n3
  have ga : (m3.set a (.lst [.int n3])) a = some (.lst [.int n3]) := Mem.set_same
  generalize m3.set a (.lst [.int n3]) = m4 at d3 ga
  walk_at "rf"
  obtain ⟨many, em⟩ : ∃ z : Nat, 2 + mm = ((z : Nat) : Int) := ⟨(2 + mm).toNat, by omega⟩
  rw [em]
  have two : 2 ≤ many := by omega
  have three : many ≤ 3 := by omega
  unfold rd_law_0f4
  walk_at "rf"
  refine ⟨by walk_at "sz", fun c hc => ?_⟩
  have d4 := d3.new (o := .lst [.int 1, .int 1, .int 2, .int 3]) hc
  have nca := (d3.free hc).2
  have gc : (m4.set c (.lst [.int 1, .int 1, .int 2, .int 3])) c = some (.lst [.int 1, .int 1, .int 2, .int 3]) := Mem.set_same
  have ga : (m4.set c (.lst [.int 1, .int 1, .int 2, .int 3])) a = some (.lst [.int n3]) := by rw [Mem.set_ne nca.symm]; exact ga
  generalize m4.set c (.lst [.int 1, .int 1, .int 2, .int 3]) = m5 at d4 gc ga
  refine ⟨a, n3, 4, rfl, ga, rfl, by decide, by decide, fun sz n4 sz0 sz1 => ?_⟩
  have d5 := d4.draw n4
  have gc : (m5.set a (.lst [.int n4])) c = some (.lst [.int 1, .int 1, .int 2, .int 3]) := by rw [Mem.set_ne nca]; exact gc
  generalize m5.set a (.lst [.int n4]) = m6 at d5 gc
  have hsz : ∀ {K : DQ}, (∀ z : Nat, 1 ≤ z → z ≤ 3 → K (natD z) m6) → ixD (.ref c) (.int sz) m6 K := fun {K} hK => by
    have : sz = 0 ∨ sz = 1 ∨ sz = 2 ∨ sz = 3 := by omega
    rcases this with rfl | rfl | rfl | rfl
    · rw [ixD_r gc (show atI _ 0 = some (natD 1) from atI_nat (j := 0) rfl)]; exact hK 1 (by omega) (by omega)
    · rw [ixD_r gc (show atI _ 1 = some (natD 1) from atI_nat (j := 1) rfl)]; exact hK 1 (by omega) (by omega)
    · rw [ixD_r gc (show atI _ 2 = some (natD 2) from atI_nat (j := 2) rfl)]; exact hK 2 (by omega) (by omega)
    · rw [ixD_r gc (show atI _ 3 = some (natD 3) from atI_nat (j := 3) rfl)]; exact hK 3 (by omega) (by omega)
  refine hsz fun z z1 z3 => ?_
  walk_at "rf"
  refine ⟨by omega, by omega, ?_⟩
  refine comp_inv (fun items acc M' => ∃ Ms : List Mach, acc = Ms.map machD ∧ Ms.length + items.length = z ∧ (∀ M ∈ Ms, IsMach many M ∧ M.length ≤ 6) ∧ DrS m M' a) (fun _ _ _ _ => trivial) (fun acc M' hP' => ?_) (fun d r acc M' hP' N hN => ?_) _ _ _ ⟨[], rfl, by rw [rngD_length]; simp, (fun _ h => nomatch h), d5⟩
  · obtain ⟨Ms, rfl, hl, hM, dd⟩ := hP'
    intro w hw
    obtain ⟨w0, nwa⟩ := dd.free hw
    have d6 := dd.new (o := .lst (Ms.map machD)) hw
    have gw : (M'.set w (.lst (Ms.map machD))) w = some (.lst (Ms.map machD)) := Mem.set_same
    rw [List.length_nil, Nat.add_zero] at hl
    exact law_5 two three d6 ha hP gw w0 nwa hM (by omega) (fun z => by rw [z] at hl; simp at hl; omega) hq
  · obtain ⟨Ms, rfl, hl, hM, dd⟩ := hP'
    rw [List.length_cons] at hl
    walk_at "rf"
    obtain ⟨n5, h5⟩ := dd.at_
    refine ⟨a, n5, many, rfl, h5, rfl, two, three, fun M0 n6 okM lM => ⟨sized' (by omega), hN _ _ ⟨Ms ++ [M0], by rw [List.map_append]; rfl, by rw [List.length_append, List.length_singleton]; omega, fun M hM' => ?_, dd.draw n6⟩⟩⟩
    rcases List.mem_append.mp hM' with y | y
    · exact hM M y
    · rw [List.mem_singleton.mp y]; exact ⟨okM, lM⟩
end
theorem rdok_law (P_come_again : Addr) {cc_come_again : Addr} {ds m q qe} (h : (spLawT 63 [(cc_come_again, P_come_again, lamQ "come_again")]) ds m q qe) : rd_law P_come_again (fun cls _ m => qe cls m) (defEnds q) (startD N_law ds) m := by
  obtain ⟨d, e0, sc, e1, hsc, hT, hq⟩ := sp1_at h
  clear h
  subst e0 e1
  have hP := hT (cc_come_again, P_come_again, lamQ "come_again") (by simp)
  dsimp only at hP
  show rd_law _ _ (defEnds q) [some (.rol (sc.map D.int)), none, none, none, none, none, none, none, none, none, none, none, none, none] m
  unfold rd_law
  walk_at "rf"
  have hmax : (if (if ((sc.length : Nat) : Int) < 3 then ((sc.length : Nat) : Int) else 3) > 1 then (if ((sc.length : Nat) : Int) < 3 then ((sc.length : Nat) : Int) else 3) else 1) ≤ 63 ∧ 1 ≤ (if (if ((sc.length : Nat) : Int) < 3 then ((sc.length : Nat) : Int) else 3) > 1 then (if ((sc.length : Nat) : Int) < 3 then ((sc.length : Nat) : Int) else 3) else 1) := by
    split <;> split <;> omega
  refine ⟨by omega, by omega, ?_⟩
  refine for_inv (fun items ρ m' => (∀ d ∈ items, ∃ i : Nat, i ≤ 100 ∧ d = natD i) ∧ m.le m' ∧ ∃ x1 x2 x3 x4 x5 x6 x7 x8 x9 x10 x11 x12 x13, ρ = [some (.rol (sc.map D.int)), x1, x2, x3, x4, x5, x6, x7, x8, x9, x10, x11, x12, x13])
    (fun _ _ _ _ => trivial) (fun ρ m' hP' => ?_) (fun d r ρ m' hP' N hN => ?_) _ _ _ ?_
  · obtain ⟨_, l, x1, x2, x3, x4, x5, x6, x7, x8, x9, x10, x11, x12, x13, rfl⟩ := hP'
    unfold rd_law_1
    walk_at "rf"
    exact defEnds_here (hq _)
  · obtain ⟨hit, l, x1, x2, x3, x4, x5, x6, x7, x8, x9, x10, x11, x12, x13, rfl⟩ := hP'
    obtain ⟨i, hi, rfl⟩ := hit d List.mem_cons_self
    walk_at "rf"
    refine law_body hi (l _ _ hP) fun M' _ _ _ _ _ _ _ _ _ _ _ _ l' => ?_
    exact dn_here (hN _ _ ⟨fun e he => hit e (List.mem_cons_of_mem _ he), Mem.le_trans l l', _, _, _, _, _, _, _, _, _, _, _, _, _, rfl⟩)
  · refine ⟨fun d hd => ?_, Mem.le_refl _, _, _, _, _, _, _, _, _, _, _, _, _, _, rfl⟩
    simp only [rngD, List.mem_map, List.mem_range] at hd
    obtain ⟨k, hk, rfl⟩ := hd
    exact ⟨k, by omega, by simp⟩

def topS (i : Nat) : Stmt := PySem.Challenge.pw_letterhand_k58_what_comes_again.main.body.getD i (.Pass ⟨0, 0, 0, 0⟩)
abbrev s_is_whole : Stmt := topS 7
theorem sc_is_whole : FnScope ["thing"] ["thing"] (defScope s_is_whole) := ⟨rfl, rfl, rfl, by decide +kernel, rfl, by decide +kernel, by decide +kernel⟩
abbrev s_is_between : Stmt := topS 8
theorem sc_is_between : FnScope ["thing", "least", "most"] ["thing", "least", "most"] (defScope s_is_between) := ⟨rfl, rfl, rfl, by decide +kernel, rfl, by decide +kernel, by decide +kernel⟩
abbrev s_is_turn : Stmt := topS 9
theorem sc_is_turn : FnScope ["thing", "letter"] ["thing"] (defScope s_is_turn) := ⟨rfl, rfl, rfl, by decide +kernel, rfl, by decide +kernel, by decide +kernel⟩
abbrev s_is_below : Stmt := topS 12
theorem sc_is_below : FnScope ["thing", "end"] ["thing", "end"] (defScope s_is_below) := ⟨rfl, rfl, rfl, by decide +kernel, rfl, by decide +kernel, by decide +kernel⟩
abbrev s_is_room : Stmt := topS 13
theorem sc_is_room : FnScope ["thing", "many", "rooms", "turn", "rests", "to"] ["thing", "many", "rooms"] (defScope s_is_room) := ⟨rfl, rfl, rfl, by decide +kernel, rfl, by decide +kernel, by decide +kernel⟩
abbrev s_is_machine : Stmt := topS 14
theorem sc_is_machine : FnScope ["thing", "first", "room"] ["thing"] (defScope s_is_machine) := ⟨rfl, rfl, rfl, by decide +kernel, rfl, by decide +kernel, by decide +kernel⟩
abbrev s_sure_machine : Stmt := topS 15
theorem sc_sure_machine : FnScope ["machine"] ["machine"] (defScope s_sure_machine) := ⟨rfl, rfl, rfl, by decide +kernel, rfl, by decide +kernel, by decide +kernel⟩
abbrev s_numbered : Stmt := topS 16
theorem sc_numbered : FnScope ["things", "numbers", "thing"] ["things"] (defScope s_numbered) := ⟨rfl, rfl, rfl, by decide +kernel, rfl, by decide +kernel, by decide +kernel⟩
abbrev s_room_marks : Stmt := topS 17
theorem sc_room_marks : FnScope ["machine", "room", "marks", "known", "to", "at"] ["machine"] (defScope s_room_marks) := ⟨rfl, rfl, rfl, by decide +kernel, rfl, by decide +kernel, by decide +kernel⟩
abbrev s_least_from : Stmt := topS 18
theorem sc_least_from : FnScope ["machine", "room", "marks", "met", "places", "at", "to", "one"] ["machine", "room"] (defScope s_least_from) := ⟨rfl, rfl, rfl, by decide +kernel, rfl, by decide +kernel, by decide +kernel⟩
abbrev s_least : Stmt := topS 19
theorem sc_least : FnScope ["machine"] ["machine"] (defScope s_least) := ⟨rfl, rfl, rfl, by decide +kernel, rfl, by decide +kernel, by decide +kernel⟩
abbrev s_begun_in : Stmt := topS 22
theorem sc_begun_in : FnScope ["machine", "first", "places", "come", "at", "there", "room"] ["machine", "first"] (defScope s_begun_in) := ⟨rfl, rfl, rfl, by decide +kernel, rfl, by decide +kernel, by decide +kernel⟩
abbrev s_begun : Stmt := topS 23
theorem sc_begun : FnScope ["machine", "room"] ["machine"] (defScope s_begun) := ⟨rfl, rfl, rfl, by decide +kernel, rfl, by decide +kernel, by decide +kernel⟩
abbrev s_unlike : Stmt := topS 24
theorem sc_unlike : FnScope ["machines", "arrows", "machine", "waiting", "one"] ["machines"] (defScope s_unlike) := ⟨rfl, rfl, rfl, by decide +kernel, rfl, by decide +kernel, by decide +kernel⟩
abbrev s_led_to : Stmt := topS 25
theorem sc_led_to : FnScope ["arrows", "firsts", "found", "waiting", "one"] ["arrows", "firsts"] (defScope s_led_to) := ⟨rfl, rfl, rfl, by decide +kernel, rfl, by decide +kernel, by decide +kernel⟩
abbrev s_come_again : Stmt := topS 26
def lamE0 : Expr → List LamSyn
  | .Lambda p b s _ => [⟨p, b, s⟩]
  | _ => []
def lamE1 : Expr → List LamSyn
  | .List es .. => es.flatMap lamE0
  | .Tuple es .. => es.flatMap lamE0
  | e => lamE0 e
def lamE2 : Expr → List LamSyn
  | .List es .. => es.flatMap lamE1
  | .Tuple es .. => es.flatMap lamE1
  | .Call _ es ks _ => es.flatMap lamE1 ++ ks.flatMap fun | ⟨_, e, _⟩ => lamE0 e
  | e => lamE0 e
def lamSt : Stmt → List LamSyn
  | .Assign _ e .. => lamE2 e
  | .Expr e .. => lamE2 e
  | .Return (some e) .. => lamE2 e
  | .For _ e .. => lamE2 e
  | _ => []
abbrev l_come_again_0 : LamSyn := (((defBody s_come_again).flatMap lamSt)[0]?).getD ⟨defArgs s_come_again, .Name "" ⟨0, 0, 0, 0⟩, defScope s_come_again⟩
theorem sc_come_again : FnScope ["machines", "arrows", "one", "again_led"] ["machines"] (defScope s_come_again) := ⟨rfl, rfl, rfl, by decide +kernel, rfl, by decide +kernel, by decide +kernel⟩
abbrev s_again : Stmt := topS 27
theorem sc_again : FnScope ["machines", "machine", "letters"] ["machines"] (defScope s_again) := ⟨rfl, rfl, rfl, by decide +kernel, rfl, by decide +kernel, by decide +kernel⟩
abbrev s_law_state : Stmt := topS 29
theorem sc_law_state : FnScope ["_law_script", "_law_k", "_law_cell", "_law_found", "_law_primes", "_law_prime", "_law_one"] ["_law_script", "_law_k"] (defScope s_law_state) := ⟨rfl, rfl, rfl, by decide +kernel, rfl, by decide +kernel, by decide +kernel⟩
abbrev s_law_next : Stmt := topS 30
theorem sc_law_next : FnScope ["_law_state_here", "_law_most", "_law_found"] ["_law_state_here", "_law_most"] (defScope s_law_next) := ⟨rfl, rfl, rfl, by decide +kernel, rfl, by decide +kernel, by decide +kernel⟩
abbrev s_law_turn : Stmt := topS 31
theorem sc_law_turn : FnScope ["_law_state_here", "_law_many", "_law_kinds", "_law_left", "_law_k", "_law_turn_here"] ["_law_state_here", "_law_many", "_law_kinds"] (defScope s_law_turn) := ⟨rfl, rfl, rfl, by decide +kernel, rfl, by decide +kernel, by decide +kernel⟩
abbrev s_law_machine : Stmt := topS 32
theorem sc_law_machine : FnScope ["_law_state_here", "_law_many", "_law_onward", "_law_size", "_law_rooms", "_law_k", "_law_turn_here", "_law_letter", "_law_there", "_law_one"] ["_law_state_here", "_law_many"] (defScope s_law_machine) := ⟨rfl, rfl, rfl, by decide +kernel, rfl, by decide +kernel, by decide +kernel⟩
abbrev s_law_come : Stmt := topS 33
theorem sc_law_come : FnScope ["_law_rooms", "_law_first", "_law_found", "_law_at", "_law_there"] ["_law_rooms", "_law_first"] (defScope s_law_come) := ⟨rfl, rfl, rfl, by decide +kernel, rfl, by decide +kernel, by decide +kernel⟩
abbrev s_law_numbered : Stmt := topS 34
theorem sc_law_numbered : FnScope ["_law_rows", "_law_rooms", "_law_met", "_law_numbers", "_law_room", "_law_row"] ["_law_rows", "_law_rooms"] (defScope s_law_numbered) := ⟨rfl, rfl, rfl, by decide +kernel, rfl, by decide +kernel, by decide +kernel⟩
abbrev s_law_least : Stmt := topS 35
theorem sc_law_least : FnScope ["_law_rooms", "_law_first", "_law_come_here", "_law_room", "_law_kinds", "_law_many", "_law_there", "_law_rows", "_law_kind", "_law_firsts", "_law_small", "_law_placing"] ["_law_rooms", "_law_first"] (defScope s_law_least) := ⟨rfl, rfl, rfl, by decide +kernel, rfl, by decide +kernel, by decide +kernel⟩
abbrev s_law_arrows : Stmt := topS 36
theorem sc_law_arrows : FnScope ["_law_machines", "_law_found", "_law_machine_here", "_law_room", "_law_one", "_law_there"] ["_law_machines"] (defScope s_law_arrows) := ⟨rfl, rfl, rfl, by decide +kernel, rfl, by decide +kernel, by decide +kernel⟩
abbrev s_law_led : Stmt := topS 37
theorem sc_law_led : FnScope ["_law_arrows_here", "_law_firsts", "_law_found", "_law_waiting", "_law_one"] ["_law_arrows_here", "_law_firsts"] (defScope s_law_led) := ⟨rfl, rfl, rfl, by decide +kernel, rfl, by decide +kernel, by decide +kernel⟩
abbrev s_law_due : Stmt := topS 38
theorem sc_law_due : FnScope ["_law_machines", "_law_arrows_here", "_law_one", "_law_home", "_law_found", "_law_many"] ["_law_machines"] (defScope s_law_due) := ⟨rfl, rfl, rfl, by decide +kernel, rfl, by decide +kernel, by decide +kernel⟩
abbrev s_law_formed : Stmt := topS 39
theorem sc_law_formed : FnScope ["_law_machine_here", "_law_room", "_law_part", "_law_one"] ["_law_machine_here"] (defScope s_law_formed) := ⟨rfl, rfl, rfl, by decide +kernel, rfl, by decide +kernel, by decide +kernel⟩
abbrev s_law : Stmt := topS 40
theorem sc_law : FnScope ["_law_script", "_law_k", "_law_state_here", "_law_twice", "_law_tupled", "_law_many", "_law_j", "_law_machines", "_law_due_here", "_law_handed", "_law_found", "_law_one", "_law_kept", "_law_told"] ["_law_script"] (defScope s_law) := ⟨rfl, rfl, rfl, by decide +kernel, rfl, by decide +kernel, by decide +kernel⟩
section
variable {P : Program} {w : World} {K : PySem.W.Frag} {mg : Str → Option Value} {base : Heap}
def mk_is_whole {f : Addr} {fd : FuncData} (F : Fun K "is_whole" "is_whole" s_is_whole f fd) (g : mg "is_whole" = some (.ref f)) (z_int : mg "int" = none) (z_isinstance : mg "isinstance" = none) (z_bool : mg "bool" = none) : DefAt P w K mg base 1 "is_whole" ["thing"] sp_is_whole where
  f := f
  fd := fd
  g := g
  kp := F.kp
  b := F.binds (ps := ["thing"]) fun _ _ _ _ _ _ us hl => match us, hl with | [_], _ => rfl
  ok := by
    have sc := sc_is_whole
    refine fnD_of F sc (fun h => sp1_len h) fun cdv A outer s H E B qe hr tk po => ?_
    refine ⟨rd_is_whole (fun cls _ m => qe cls m), (dss_one (ds_ret (de_and (de_callB c_isi (by rfl) z_isinstance (by decide +kernel) (da_cons (de_var 0) (da_cons (de_ty (by rfl) z_int (by decide +kernel)) da_nil))) (de_one (de_not (de_callB c_isi (by rfl) z_isinstance (by decide +kernel) (da_cons (de_var 0) (da_cons (de_ty (by rfl) z_bool (by decide +kernel)) da_nil)))))))), fun ds m q h => rdok_is_whole h⟩
def mk_is_between {f : Addr} {fd : FuncData} (F : Fun K "is_between" "is_between" s_is_between f fd) (g : mg "is_between" = some (.ref f)) (d_is_whole : DefAt P w K mg base 1 "is_whole" ["thing"] sp_is_whole) : DefAt P w K mg base 2 "is_between" ["thing", "least", "most"] sp_is_between where
  f := f
  fd := fd
  g := g
  kp := F.kp
  b := F.binds (ps := ["thing", "least", "most"]) fun _ _ _ _ _ _ us hl => match us, hl with | [_, _, _], _ => rfl
  ok := by
    have sc := sc_is_between
    refine fnD_of F sc (fun h => sp3_len h) fun cdv A outer s H E B qe hr tk po => ?_
    refine ⟨rd_is_between (fun cls _ m => qe cls m), (dss_one (ds_ret (de_and (de_callD d_is_whole (hr.mono (by decide)) (by rfl) tk (da_cons (de_var 0) da_nil)) (de_one (de_chain d_le d_le (de_var 1) (de_var 0) (de_var 2)))))), fun ds m q h => rdok_is_between h⟩
def mk_is_turn {f : Addr} {fd : FuncData} (F : Fun K "is_turn" "is_turn" s_is_turn f fd) (g : mg "is_turn" = some (.ref f)) (z_tuple : mg "tuple" = none) (z_isinstance : mg "isinstance" = none) (i_LEAST_MANY   : GI mg "LEAST_MANY" 2) (z_len : mg "len" = none) (i_MOST_MANY   : GI mg "MOST_MANY" 4) (d_is_between : DefAt P w K mg base 2 "is_between" ["thing", "least", "most"] sp_is_between) (z_all : mg "all" = none) (z_sorted : mg "sorted" = none) (z_list : mg "list" = none) (z_range : mg "range" = none) : DefAt P w K mg base 3 "is_turn" ["thing"] sp_is_turn where
  f := f
  fd := fd
  g := g
  kp := F.kp
  b := F.binds (ps := ["thing"]) fun _ _ _ _ _ _ us hl => match us, hl with | [_], _ => rfl
  ok := by
    have sc := sc_is_turn
    refine fnD_of F sc (fun h => sp1_len h) fun cdv A outer s H E B qe hr tk po => ?_
    refine ⟨rd_is_turn (fun cls _ m => qe cls m), (dss_cons (ds_if (dt_w (dw_or (dt_not (dt_truth (de_callB c_isi (by rfl) z_isinstance (by decide +kernel) (da_cons (de_var 0) (da_cons (de_ty (by rfl) z_tuple (by decide +kernel)) da_nil))))) (dw_or1 (dt_not (dt_chain d_le d_le (de_gi i_LEAST_MANY (by rfl)) (de_callB c_len (by rfl) z_len (by decide +kernel) (da_cons (de_var 0) da_nil)) (de_gi i_MOST_MANY (by rfl))))))) (dss_one (ds_ret de_bl)) dss_nil)
  (dss_cons (ds_if (dt_not (dt_truth (de_newB (n_all rfl) (by rfl) z_all (by decide +kernel) (dl_comp [("letter", 1)] rfl sc.nd (di_seq (de_var 0)) (blkOk_by (N := ["thing", "letter"]) (sc := defScope s_is_turn) (by decide +kernel)) (fun _ _ _ _ _ => (dg_name (i := 1) sc.nd)) (fun _ _ _ _ _ => dts_nil) (fun _ _ _ _ _ => (de_callD d_is_between (hr.mono (by decide)) (by rfl) takesN (da_cons (de_var 1) (da_cons de_int (da_cons (de_op d_sub (de_callB c_len (by rfl) z_len (by decide +kernel) (da_cons (de_var 0) da_nil)) de_int) da_nil))))))))) (dss_one (ds_ret de_bl)) dss_nil)
  (dss_one (ds_ret (de_eqNN hr.units (dl_callB l_sorted (by rfl) z_sorted (by decide +kernel) (de_var 0)) (dl_listRg1 rfl (by rfl) z_list (by rfl) z_range (de_callB c_len (by rfl) z_len (by decide +kernel) (da_cons (de_var 0) da_nil)))))))), fun ds m q h => rdok_is_turn h⟩
def mk_is_below {f : Addr} {fd : FuncData} (F : Fun K "is_below" "is_below" s_is_below f fd) (g : mg "is_below" = some (.ref f)) (z_int : mg "int" = none) (z_isinstance : mg "isinstance" = none) (z_bool : mg "bool" = none) : DefAt P w K mg base 1 "is_below" ["thing", "end"] sp_is_below where
  f := f
  fd := fd
  g := g
  kp := F.kp
  b := F.binds (ps := ["thing", "end"]) fun _ _ _ _ _ _ us hl => match us, hl with | [_, _], _ => rfl
  ok := by
    have sc := sc_is_below
    refine fnD_of F sc (fun h => sp2_len h) fun cdv A outer s H E B qe hr tk po => ?_
    refine ⟨rd_is_below (fun cls _ m => qe cls m), (dss_one (ds_ret (de_and (de_callB c_isi (by rfl) z_isinstance (by decide +kernel) (da_cons (de_var 0) (da_cons (de_ty (by rfl) z_int (by decide +kernel)) da_nil))) (de_and (de_not (de_callB c_isi (by rfl) z_isinstance (by decide +kernel) (da_cons (de_var 0) (da_cons (de_ty (by rfl) z_bool (by decide +kernel)) da_nil)))) (de_one (de_chain d_le d_lt de_int (de_var 0) (de_var 1))))))), fun ds m q h => rdok_is_below h⟩
def mk_is_room {f : Addr} {fd : FuncData} (F : Fun K "is_room" "is_room" s_is_room f fd) (g : mg "is_room" = some (.ref f)) (z_tuple : mg "tuple" = none) (z_isinstance : mg "isinstance" = none) (z_len : mg "len" = none) (d_is_turn : DefAt P w K mg base 3 "is_turn" ["thing"] sp_is_turn) (d_is_below : DefAt P w K mg base 1 "is_below" ["thing", "end"] sp_is_below) (z_all : mg "all" = none) : DefAt P w K mg base 4 "is_room" ["thing", "many", "rooms"] sp_is_room where
  f := f
  fd := fd
  g := g
  kp := F.kp
  b := F.binds (ps := ["thing", "many", "rooms"]) fun _ _ _ _ _ _ us hl => match us, hl with | [_, _, _], _ => rfl
  ok := by
    have sc := sc_is_room
    refine fnD_of F sc (fun h => sp3_len h) fun cdv A outer s H E B qe hr tk po => ?_
    refine ⟨rd_is_room (fun cls _ m => qe cls m), (dss_cons (ds_if (dt_w (dw_or (dt_not (dt_truth (de_callB c_isi (by rfl) z_isinstance (by decide +kernel) (da_cons (de_var 0) (da_cons (de_ty (by rfl) z_tuple (by decide +kernel)) da_nil))))) (dw_or1 (dt_cmp (d_ne hr.units) (de_callB c_len (by rfl) z_len (by decide +kernel) (da_cons (de_var 0) da_nil)) de_int (nomark _))))) (dss_one (ds_ret de_bl)) dss_nil)
  (dss_cons (ds_asg (vs := [3, 4]) (de_var 0) (dg_tup rfl (dgs_cons (dg_name (i := 3) sc.nd) (dgs_cons (dg_name (i := 4) sc.nd) dgs_nil))))
  (dss_cons (ds_if (dt_w (dw_or (dt_not (dt_truth (de_callD d_is_turn (hr.mono (by decide)) (by rfl) tk (da_cons (de_var 3) da_nil)))) (dw_or (dt_cmp (d_ne hr.units) (de_callB c_len (by rfl) z_len (by decide +kernel) (da_cons (de_var 3) da_nil)) (de_var 1) (nomark _)) (dw_or (dt_not (dt_truth (de_callB c_isi (by rfl) z_isinstance (by decide +kernel) (da_cons (de_var 4) (da_cons (de_ty (by rfl) z_tuple (by decide +kernel)) da_nil))))) (dw_or1 (dt_cmp (d_ne hr.units) (de_callB c_len (by rfl) z_len (by decide +kernel) (da_cons (de_var 4) da_nil)) (de_var 1) (nomark _))))))) (dss_one (ds_ret de_bl)) dss_nil)
  (dss_one (ds_ret (de_newB (n_all rfl) (by rfl) z_all (by decide +kernel) (dl_comp [("to", 5)] rfl sc.nd (di_seq (de_var 4)) (blkOk_by (N := ["thing", "many", "rooms", "turn", "rests", "to"]) (sc := defScope s_is_room) (by decide +kernel)) (fun _ _ _ _ _ => (dg_name (i := 5) sc.nd)) (fun _ _ _ _ _ => dts_nil) (fun _ _ _ _ _ => (de_callD d_is_below (hr.mono (by decide)) (by rfl) takesN (da_cons (de_var 5) (da_cons (de_var 2) da_nil))))))))))), fun ds m q h => rdok_is_room h⟩
def mk_is_machine {f : Addr} {fd : FuncData} (F : Fun K "is_machine" "is_machine" s_is_machine f fd) (g : mg "is_machine" = some (.ref f)) (z_tuple : mg "tuple" = none) (z_isinstance : mg "isinstance" = none) (z_len : mg "len" = none) (i_MOST_ROOMS   : GI mg "MOST_ROOMS" 60) (d_is_turn : DefAt P w K mg base 3 "is_turn" ["thing"] sp_is_turn) (d_is_room : DefAt P w K mg base 4 "is_room" ["thing", "many", "rooms"] sp_is_room) (z_all : mg "all" = none) : DefAt P w K mg base 5 "is_machine" ["thing"] sp_is_machine where
  f := f
  fd := fd
  g := g
  kp := F.kp
  b := F.binds (ps := ["thing"]) fun _ _ _ _ _ _ us hl => match us, hl with | [_], _ => rfl
  ok := by
    have sc := sc_is_machine
    refine fnD_of F sc (fun h => sp1_len h) fun cdv A outer s H E B qe hr tk po => ?_
    refine ⟨rd_is_machine (fun cls _ m => qe cls m), (dss_cons (ds_if (dt_w (dw_or (dt_not (dt_truth (de_callB c_isi (by rfl) z_isinstance (by decide +kernel) (da_cons (de_var 0) (da_cons (de_ty (by rfl) z_tuple (by decide +kernel)) da_nil))))) (dw_or1 (dt_not (dt_chain d_le d_le de_int (de_callB c_len (by rfl) z_len (by decide +kernel) (da_cons (de_var 0) da_nil)) (de_gi i_MOST_ROOMS (by rfl))))))) (dss_one (ds_ret de_bl)) dss_nil)
  (dss_cons (ds_set (i := 1) sc.nd (de_ix (de_var 0) de_int))
  (dss_cons (ds_if (dt_w (dw_or (dt_not (dt_truth (de_callB c_isi (by rfl) z_isinstance (by decide +kernel) (da_cons (de_var 1) (da_cons (de_ty (by rfl) z_tuple (by decide +kernel)) da_nil))))) (dw_or (dt_cmp (d_ne hr.units) (de_callB c_len (by rfl) z_len (by decide +kernel) (da_cons (de_var 1) da_nil)) de_int (nomark _)) (dw_or1 (dt_not (dt_truth (de_callD d_is_turn (hr.mono (by decide)) (by rfl) tk (da_cons (de_ix (de_var 1) de_int) da_nil)))))))) (dss_one (ds_ret de_bl)) dss_nil)
  (dss_one (ds_ret (de_newB (n_all rfl) (by rfl) z_all (by decide +kernel) (dl_comp [("room", 2)] rfl sc.nd (di_seq (de_var 0)) (blkOk_by (N := ["thing", "first", "room"]) (sc := defScope s_is_machine) (by decide +kernel)) (fun _ _ _ _ _ => (dg_name (i := 2) sc.nd)) (fun _ _ _ _ _ => dts_nil) (fun _ _ _ _ _ => (de_callD d_is_room (hr.mono (by decide)) (by rfl) takesN (da_cons (de_var 2) (da_cons (de_callB c_len (by rfl) z_len (by decide +kernel) (da_cons (de_ix (de_var 1) de_int) da_nil)) (da_cons (de_callB c_len (by rfl) z_len (by decide +kernel) (da_cons (de_var 0) da_nil)) da_nil)))))))))))), fun ds m q h => rdok_is_machine h⟩
def mk_sure_machine {f : Addr} {fd : FuncData} (F : Fun K "sure_machine" "sure_machine" s_sure_machine f fd) (g : mg "sure_machine" = some (.ref f)) (d_is_machine : DefAt P w K mg base 5 "is_machine" ["thing"] sp_is_machine) : DefAt P w K mg base 6 "sure_machine" ["machine"] sp_sure_machine where
  f := f
  fd := fd
  g := g
  kp := F.kp
  b := F.binds (ps := ["machine"]) fun _ _ _ _ _ _ us hl => match us, hl with | [_], _ => rfl
  ok := by
    have sc := sc_sure_machine
    refine fnD_of F sc (fun h => sp1_len h) fun cdv A outer s H E B qe hr tk po => ?_
    refine ⟨rd_sure_machine (fun cls _ m => qe cls m), (dss_cons (ds_if (dt_not (dt_truth (de_callD d_is_machine (hr.mono (by decide)) (by rfl) tk (da_cons (de_var 0) da_nil)))) (dss_one ds_never) dss_nil)
  (dss_one (ds_ret (de_var 0)))), fun ds m q h => rdok_sure_machine h⟩
def mk_numbered {f : Addr} {fd : FuncData} (F : Fun K "numbered" "numbered" s_numbered f fd) (g : mg "numbered" = some (.ref f)) (z_len : mg "len" = none) : DefAt P w K mg base 1 "numbered" ["things"] sp_numbered where
  f := f
  fd := fd
  g := g
  kp := F.kp
  b := F.binds (ps := ["things"]) fun _ _ _ _ _ _ us hl => match us, hl with | [_], _ => rfl
  ok := by
    have sc := sc_numbered
    refine fnD_of F sc (fun h => sp1_len h) fun cdv A outer s H E B qe hr tk po => ?_
    refine ⟨rd_numbered (fun cls _ m => qe cls m), (dss_cons (ds_set (i := 1) sc.nd de_dict0)
  (dss_one (ds_ret (de_new (dl_comp [("thing", 2)] rfl sc.nd (di_seq (de_var 0)) (blkOk_by (N := ["things", "numbers", "thing"]) (sc := defScope s_numbered) (by decide +kernel)) (fun _ _ _ _ _ => (dg_name (i := 2) sc.nd)) (fun _ _ _ _ _ => dts_nil) (fun _ _ _ _ _ => (de_setdef hr.units (de_var 1) (de_var 2) (de_callB c_lenG (by rfl) z_len (by decide +kernel) (da_cons (de_var 1) da_nil))))))))), fun ds m q h => rdok_numbered h⟩
def mk_room_marks {f : Addr} {fd : FuncData} (F : Fun K "room_marks" "room_marks" s_room_marks f fd) (g : mg "room_marks" = some (.ref f)) (d_numbered : DefAt P w K mg base 1 "numbered" ["things"] sp_numbered) (z_max : mg "max" = none) (z_enumerate : mg "enumerate" = none) (z_tuple : mg "tuple" = none) : DefAt P w K mg base 2 "room_marks" ["machine"] sp_room_marks where
  f := f
  fd := fd
  g := g
  kp := F.kp
  b := F.binds (ps := ["machine"]) fun _ _ _ _ _ _ us hl => match us, hl with | [_], _ => rfl
  ok := by
    have sc := sc_room_marks
    refine fnD_of F sc (fun h => sp1_len h) fun cdv A outer s H E B qe hr tk po => ?_
    refine ⟨rd_room_marks (fun cls _ m => qe cls m), (dss_cons (ds_set (i := 2) sc.nd (de_callD d_numbered (hr.mono (by decide)) (by rfl) tk (da_cons (de_new (dl_comp [("room", 1)] rfl sc.nd (di_seq (de_var 0)) (blkOk_by (N := ["machine", "room", "marks", "known", "to", "at"]) (sc := defScope s_room_marks) (by decide +kernel)) (fun _ _ _ _ _ => (dg_name (i := 1) sc.nd)) (fun _ _ _ _ _ => dts_nil) (fun _ _ _ _ _ => (de_ix (de_var 1) de_int)))) da_nil)))
  (dss_cons (ds_set (i := 3) sc.nd de_int)
  (dss_cons (ds_while po (dt_cmp d_ge (de_callB (c_max rfl) (by rfl) z_max (by decide +kernel) (da_cons (de_var 2) da_nil)) (de_var 3) (nomark _)) (dss_cons (ds_set (i := 3) sc.nd (de_op d_add (de_callB (c_max rfl) (by rfl) z_max (by decide +kernel) (da_cons (de_var 2) da_nil)) de_int))
  (dss_one (ds_set (i := 2) sc.nd (de_callD d_numbered (hr.mono (by decide)) (by rfl) tk (da_cons (de_new (dl_comp [("at", 5), ("room", 1)] rfl sc.nd (di_enum (by rfl) z_enumerate (de_var 0)) (blkOk_by (N := ["machine", "room", "marks", "known", "to", "at"]) (sc := defScope s_room_marks) (by decide +kernel)) (fun _ _ _ _ _ => (dg_tup rfl (dgs_cons (dg_name (i := 5) sc.nd) (dgs_cons (dg_name (i := 1) sc.nd) dgs_nil)))) (fun _ _ _ _ _ => dts_nil) (fun _ _ _ _ _ => (de_tup (da_cons (de_ix (de_var 2) (de_var 5)) (da_cons (de_newTy n_tuple (by rfl) z_tuple (by decide +kernel) (dl_comp [("to", 4)] rfl sc.nd (di_seq (de_ix (de_var 1) de_int)) (blkOk_by (by kernel_rfl)) (fun _ _ _ _ _ => (dg_name (i := 4) sc.nd)) (fun _ _ _ _ _ => dts_nil) (fun _ _ _ _ _ => (de_ix (de_var 2) (de_var 4))))) da_nil)))))) da_nil))))))
  (dss_one (ds_ret (de_var 2)))))), fun ds m q h => rdok_room_marks h⟩
def mk_least_from {f : Addr} {fd : FuncData} (F : Fun K "least_from" "least_from" s_least_from f fd) (g : mg "least_from" = some (.ref f)) (d_room_marks : DefAt P w K mg base 2 "room_marks" ["machine"] sp_room_marks) (z_len : mg "len" = none) (z_tuple : mg "tuple" = none) : DefAt P w K mg base 3 "least_from" ["machine", "room"] sp_least_from where
  f := f
  fd := fd
  g := g
  kp := F.kp
  b := F.binds (ps := ["machine", "room"]) fun _ _ _ _ _ _ us hl => match us, hl with | [_, _], _ => rfl
  ok := by
    have sc := sc_least_from
    refine fnD_of F sc (fun h => sp2_len h) fun cdv A outer s H E B qe hr tk po => ?_
    refine ⟨rd_least_from (fun cls _ m => qe cls m), (dss_cons (ds_set (i := 2) sc.nd (de_callD d_room_marks (hr.mono (by decide)) (by rfl) tk (da_cons (de_var 0) da_nil)))
  (dss_cons (ds_set (i := 3) sc.nd (de_new (dl_lst (da_cons (de_var 1) da_nil))))
  (dss_cons (ds_set (i := 4) sc.nd (de_disp1K (de_ixG hr.units (de_var 2) (de_var 1)) de_int))
  (dss_cons (ds_set (i := 5) sc.nd de_int)
  (dss_cons (ds_while po (dt_cmp d_lt (de_var 5) (de_callB c_lenG (by rfl) z_len (by decide +kernel) (da_cons (de_var 3) da_nil)) (nomark _)) (dss_cons (ds_for (vs := [6]) po rfl (di_seq (de_ixG hr.units (de_ixG hr.units (de_var 0) (de_ixG hr.units (de_var 3) (de_var 5))) de_int)) (dg_name (i := 6) sc.nd) (dss_one (ds_if (dt_cmp (d_notIn hr.units) (de_ixG hr.units (de_var 2) (de_var 6)) (de_var 4) (by rfl)) (dss_cons (ds_setG hr.units (de_callB c_lenG (by rfl) z_len (by decide +kernel) (da_cons (de_var 3) da_nil)) (de_var 4) (de_ixG hr.units (de_var 2) (de_var 6)))
  (dss_one (ds_expr (de_bmL PySem.F.slot_list_append PySem.F.type_list_append m_append (de_var 3) (da_cons (de_var 6) da_nil))))) dss_nil)))
  (dss_one (ds_aug (i := 5) sc.nd de_int di_addI))))
  (dss_one (ds_ret (de_newTy n_tuple (by rfl) z_tuple (by decide +kernel) (dl_comp [("one", 7)] rfl sc.nd (di_seq (de_var 3)) (blkOk_by (N := ["machine", "room", "marks", "met", "places", "at", "to", "one"]) (sc := defScope s_least_from) (by decide +kernel)) (fun _ _ _ _ _ => (dg_name (i := 7) sc.nd)) (fun _ _ _ _ _ => dts_nil) (fun _ _ _ _ _ => (de_tup (da_cons (de_ixG hr.units (de_ixG hr.units (de_var 0) (de_var 7)) de_int) (da_cons (de_newTy n_tuple (by rfl) z_tuple (by decide +kernel) (dl_comp [("to", 6)] rfl sc.nd (di_seq (de_ixG hr.units (de_ixG hr.units (de_var 0) (de_var 7)) de_int)) (blkOk_by (by kernel_rfl)) (fun _ _ _ _ _ => (dg_name (i := 6) sc.nd)) (fun _ _ _ _ _ => dts_nil) (fun _ _ _ _ _ => (de_ixG hr.units (de_var 4) (de_ixG hr.units (de_var 2) (de_var 6)))))) da_nil))))))))))))), fun ds m q h => rdok_least_from h⟩
def mk_least {f : Addr} {fd : FuncData} (F : Fun K "least" "least" s_least f fd) (g : mg "least" = some (.ref f)) (d_least_from : DefAt P w K mg base 3 "least_from" ["machine", "room"] sp_least_from) (d_sure_machine : DefAt P w K mg base 6 "sure_machine" ["machine"] sp_sure_machine) : DefAt P w K mg base 7 "least" ["machine"] sp_least where
  f := f
  fd := fd
  g := g
  kp := F.kp
  b := F.binds (ps := ["machine"]) fun _ _ _ _ _ _ us hl => match us, hl with | [_], _ => rfl
  ok := by
    have sc := sc_least
    refine fnD_of F sc (fun h => sp1_len h) fun cdv A outer s H E B qe hr tk po => ?_
    refine ⟨rd_least (fun cls _ m => qe cls m), (dss_one (ds_ret (de_callD d_least_from (hr.mono (by decide)) (by rfl) tk (da_cons (de_callD d_sure_machine (hr.mono (by decide)) (by rfl) tk (da_cons (de_var 0) da_nil)) (da_cons de_int da_nil))))), fun ds m q h => rdok_least h⟩
def mk_begun_in {f : Addr} {fd : FuncData} (F : Fun K "begun_in" "begun_in" s_begun_in f fd) (g : mg "begun_in" = some (.ref f)) (z_len : mg "len" = none) (z_tuple : mg "tuple" = none) : DefAt P w K mg base 1 "begun_in" ["machine", "first"] sp_begun_in where
  f := f
  fd := fd
  g := g
  kp := F.kp
  b := F.binds (ps := ["machine", "first"]) fun _ _ _ _ _ _ us hl => match us, hl with | [_, _], _ => rfl
  ok := by
    have sc := sc_begun_in
    refine fnD_of F sc (fun h => sp2_len h) fun cdv A outer s H E B qe hr tk po => ?_
    refine ⟨rd_begun_in (fun cls _ m => qe cls m), (dss_cons (ds_set (i := 2) sc.nd (de_disp1K (de_var 1) de_int))
  (dss_cons (ds_set (i := 3) sc.nd (de_new (dl_lst (da_cons (de_var 1) da_nil))))
  (dss_cons (ds_set (i := 4) sc.nd de_int)
  (dss_cons (ds_while po (dt_cmp d_lt (de_var 4) (de_callB c_lenG (by rfl) z_len (by decide +kernel) (da_cons (de_var 3) da_nil)) (nomark _)) (dss_cons (ds_for (vs := [5]) po rfl (di_seq (de_ixG hr.units (de_ixG hr.units (de_var 0) (de_ixG hr.units (de_var 3) (de_var 4))) de_int)) (dg_name (i := 5) sc.nd) (dss_one (ds_if (dt_cmp (d_notIn hr.units) (de_var 5) (de_var 2) (by rfl)) (dss_cons (ds_setG hr.units (de_callB c_lenG (by rfl) z_len (by decide +kernel) (da_cons (de_var 3) da_nil)) (de_var 2) (de_var 5))
  (dss_one (ds_expr (de_bmL PySem.F.slot_list_append PySem.F.type_list_append m_append (de_var 3) (da_cons (de_var 5) da_nil))))) dss_nil)))
  (dss_one (ds_aug (i := 4) sc.nd de_int di_addI))))
  (dss_one (ds_ret (de_newTy n_tuple (by rfl) z_tuple (by decide +kernel) (dl_comp [("room", 6)] rfl sc.nd (di_seq (de_var 3)) (blkOk_by (N := ["machine", "first", "places", "come", "at", "there", "room"]) (sc := defScope s_begun_in) (by decide +kernel)) (fun _ _ _ _ _ => (dg_name (i := 6) sc.nd)) (fun _ _ _ _ _ => dts_nil) (fun _ _ _ _ _ => (de_tup (da_cons (de_ixG hr.units (de_ixG hr.units (de_var 0) (de_var 6)) de_int) (da_cons (de_newTy n_tuple (by rfl) z_tuple (by decide +kernel) (dl_comp [("there", 5)] rfl sc.nd (di_seq (de_ixG hr.units (de_ixG hr.units (de_var 0) (de_var 6)) de_int)) (blkOk_by (by kernel_rfl)) (fun _ _ _ _ _ => (dg_name (i := 5) sc.nd)) (fun _ _ _ _ _ => dts_nil) (fun _ _ _ _ _ => (de_ixG hr.units (de_var 2) (de_var 5))))) da_nil)))))))))))), fun ds m q h => rdok_begun_in h⟩
def mk_begun {f : Addr} {fd : FuncData} (F : Fun K "begun" "begun" s_begun f fd) (g : mg "begun" = some (.ref f)) (d_begun_in : DefAt P w K mg base 1 "begun_in" ["machine", "first"] sp_begun_in) : DefAt P w K mg base 2 "begun" ["machine"] sp_begun where
  f := f
  fd := fd
  g := g
  kp := F.kp
  b := F.binds (ps := ["machine"]) fun _ _ _ _ _ _ us hl => match us, hl with | [_], _ => rfl
  ok := by
    have sc := sc_begun
    refine fnD_of F sc (fun h => sp1_len h) fun cdv A outer s H E B qe hr tk po => ?_
    refine ⟨rd_begun (fun cls _ m => qe cls m), (dss_one (ds_ret (de_new (dl_comp [("room", 1)] rfl sc.nd (di_seq (de_ix (de_ix (de_var 0) de_int) de_int)) (blkOk_by (N := ["machine", "room"]) (sc := defScope s_begun) (by decide +kernel)) (fun _ _ _ _ _ => (dg_name (i := 1) sc.nd)) (fun _ _ _ _ _ => dts_nil) (fun _ _ _ _ _ => (de_callD d_begun_in (hr.mono (by decide)) (by rfl) takesN (da_cons (de_var 0) (da_cons (de_var 1) da_nil)))))))), fun ds m q h => rdok_begun h⟩
def mk_unlike {f : Addr} {fd : FuncData} (F : Fun K "unlike" "unlike" s_unlike f fd) (g : mg "unlike" = some (.ref f)) (d_least : DefAt P w K mg base 7 "least" ["machine"] sp_least) (z_len : mg "len" = none) (i_MOST_UNLIKE   : GI mg "MOST_UNLIKE" 60) (d_begun : DefAt P w K mg base 2 "begun" ["machine"] sp_begun) : DefAt P w K mg base 8 "unlike" ["machines"] sp_unlike where
  f := f
  fd := fd
  g := g
  kp := F.kp
  b := F.binds (ps := ["machines"]) fun _ _ _ _ _ _ us hl => match us, hl with | [_], _ => rfl
  ok := by
    have sc := sc_unlike
    refine fnD_of F sc (fun h => sp1_len h) fun cdv A outer s H E B qe hr tk po => ?_
    refine ⟨rd_unlike (fun cls _ m => qe cls m), (dss_cons (ds_set (i := 1) sc.nd de_dictT)
  (dss_cons (ds_for (vs := [2]) po rfl (di_seq (de_var 0)) (dg_name (i := 2) sc.nd) (dss_cons (ds_set (i := 3) sc.nd (de_new (dl_lst (da_cons (de_callD d_least (hr.mono (by decide)) (by rfl) tk (da_cons (de_var 2) da_nil)) da_nil))))
  (dss_one (ds_while po (dt_neNil hr.units (de_var 3)) (dss_cons (ds_set (i := 4) sc.nd (de_bmL0 PySem.F.slot_list_pop PySem.F.type_list_pop m_pop (de_var 3)))
  (dss_cons (ds_if (dt_cmp (d_in hr.units) (de_var 4) (de_var 1) (by rfl)) (dss_one ds_continue) dss_nil)
  (dss_cons (ds_if (dt_cmp (d_eq hr.units) (de_callB c_lenG (by rfl) z_len (by decide +kernel) (da_cons (de_var 1) da_nil)) (de_gi i_MOST_UNLIKE (by rfl)) (nomark _)) (dss_one ds_never) dss_nil)
  (dss_cons (ds_setG hr.units (de_callD d_begun (hr.mono (by decide)) (by rfl) tk (da_cons (de_var 4) da_nil)) (de_var 1) (de_var 4))
  (dss_one (ds_expr (de_bmL PySem.F.slot_list_extend PySem.F.type_list_extend m_extend (de_var 3) (da_cons (de_ixG hr.units (de_var 1) (de_var 4)) da_nil))))))))))))
  (dss_one (ds_ret (de_var 1))))), fun ds m q h => rdok_unlike h⟩
def mk_led_to {f : Addr} {fd : FuncData} (F : Fun K "led_to" "led_to" s_led_to f fd) (g : mg "led_to" = some (.ref f)) (z_list : mg "list" = none) : DefAt P w K mg base 1 "led_to" ["arrows", "firsts"] sp_led_to where
  f := f
  fd := fd
  g := g
  kp := F.kp
  b := F.binds (ps := ["arrows", "firsts"]) fun _ _ _ _ _ _ us hl => match us, hl with | [_, _], _ => rfl
  ok := by
    have sc := sc_led_to
    refine fnD_of F sc (fun h => sp2_len h) fun cdv A outer s H E B qe hr tk po => ?_
    refine ⟨rd_led_to (fun cls _ m => qe cls m), (dss_cons (ds_set (i := 2) sc.nd de_dictT)
  (dss_cons (ds_set (i := 3) sc.nd (de_new (dl_callTy l_list (by rfl) z_list (by decide +kernel) (de_var 1))))
  (dss_cons (ds_while po (dt_neNil hr.units (de_var 3)) (dss_cons (ds_set (i := 4) sc.nd (de_bmL0 PySem.F.slot_list_pop PySem.F.type_list_pop m_pop (de_var 3)))
  (dss_one (ds_if (dt_cmp (d_notIn hr.units) (de_var 4) (de_var 2) (by rfl)) (dss_cons (ds_setG hr.units de_bl (de_var 2) (de_var 4))
  (dss_one (ds_expr (de_bmL PySem.F.slot_list_extend PySem.F.type_list_extend m_extend (de_var 3) (da_cons (de_ixG hr.units (de_var 0) (de_var 4)) da_nil))))) dss_nil))))
  (dss_one (ds_ret (de_var 2)))))), fun ds m q h => rdok_led_to h⟩
def mk_come_again {P_come_again : Addr} {cc_come_again : Addr} {f : Addr} {fd : FuncData} (F : Fun K "come_again" "come_again" s_come_again f fd) (g : mg "come_again" = some (.ref f)) (d_unlike : DefAt P w K mg base 8 "unlike" ["machines"] sp_unlike) (d_led_to : DefAt P w K mg base 1 "led_to" ["arrows", "firsts"] sp_led_to) (TB_come_again : TabB base mg cc_come_again P_come_again) (hcT_come_again : fd.code = .ref cc_come_again) (z_len : mg "len" = none) (z_sorted : mg "sorted" = none) : DefG P w K mg base 12 "come_again" ["machines"] (sp_come_again P_come_again) where
  f := f
  fd := fd
  g := g
  kp := F.kp
  b := F.binds (ps := ["machines"]) fun _ _ _ _ _ _ us hl => match us, hl with | [_], _ => rfl
  ok := by
    have sc := sc_come_again
    refine fnDG_ofC F sc (fun h => sp1_len h) fun cdv A outer s H E B qe hc hr gd tk po => ?_
    refine ⟨rd_come_again P_come_again _ l_come_again_0 (fun cls _ m => qe cls m), (dss_cons (ds_set (i := 1) sc.nd (de_callD d_unlike (hr.mono (by decide)) (by rfl) tk (da_cons (de_var 0) da_nil)))
  (dss_cons (ds_setLc (i := 3) [("one", 2)] rfl sc.nd rfl rfl (sw_true rfl rfl rfl (by decide +kernel)) (di_keysT (de_var 1)) (blkOk_by (N := ["machines", "arrows", "one", "again_led"]) (sc := defScope s_come_again) (by decide +kernel)) (fun _ _ _ _ _ => (dg_name (i := 2) sc.nd)) (fun _ _ _ _ _ => (dts_one (dt_cmp (d_in hr.units) (de_var 2) (de_callD d_led_to (hr.mono (by decide)) (by rfl) takesN (da_cons (de_var 1) (da_cons (de_ixG hr.units (de_var 1) (de_var 2)) da_nil))) (by rfl)))) (fun _ _ _ _ _ => (de_var 2)))
  (dss_one (ds_ret (de_sortByF (k := 8) z_sorted rfl hr ⟨lamS1_by (sc := defScope s_come_again) (scope := l_come_again_0.scope) (p := "one") (by decide +kernel), nOk_by (N := ["machines", "arrows", "one", "again_led"]) (N' := ["machines", "arrows", "", "again_led", "one"]) (by decide +kernel), by intro _ _ _ _ _ _; rfl, fun _ _ _ _ _ _ hr tk => (de_tup (da_cons (de_callB c_lenG (by rfl) z_len (by decide +kernel) (da_cons (de_var 4) da_nil)) (da_cons (de_var 4) da_nil)))⟩ (de_callD d_led_to (hr.mono (by decide)) (by rfl) tk (da_cons (de_var 1) (da_cons (de_var 3) da_nil))) (dk_cons (de_keep1F TB_come_again (hc.symm.trans hcT_come_again) (lamS1_by (sc := defScope s_come_again) (p := "one") (by decide +kernel))) dk_nil)))))), fun ds m q h => rdok_come_again P_come_again _ l_come_again_0 h⟩
def mk_again {P_come_again : Addr} {f : Addr} {fd : FuncData} (F : Fun K "again" "again" s_again f fd) (g : mg "again" = some (.ref f)) (z_tuple : mg "tuple" = none) (z_list : mg "list" = none) (z_isinstance : mg "isinstance" = none) (z_len : mg "len" = none) (d_is_machine : DefAt P w K mg base 5 "is_machine" ["thing"] sp_is_machine) (z_all : mg "all" = none) (d_come_again : DefG P w K mg base 12 "come_again" ["machines"] (sp_come_again P_come_again)) : DefG P w K mg base 13 "again" ["machines"] (sp_again P_come_again) where
  f := f
  fd := fd
  g := g
  kp := F.kp
  b := F.binds (ps := ["machines"]) fun _ _ _ _ _ _ us hl => match us, hl with | [_], _ => rfl
  ok := by
    have sc := sc_again
    refine fnDG_of F sc (fun h => sp1_len h) fun cdv A outer s H E B qe hr gd tk po => ?_
    refine ⟨rd_again P_come_again (fun cls _ m => qe cls m), (dss_cons (ds_if (dt_w (dw_or (dt_not (dt_truth (de_callB c_isi (by rfl) z_isinstance (by decide +kernel) (da_cons (de_var 0) (da_cons (de_tup (da_cons (de_ty (by rfl) z_list (by decide +kernel)) (da_cons (de_ty (by rfl) z_tuple (by decide +kernel)) da_nil))) da_nil))))) (dw_or1 (dt_not (dt_chain d_le d_le de_int (de_callB c_len (by rfl) z_len (by decide +kernel) (da_cons (de_var 0) da_nil)) de_int))))) (dss_one ds_never) dss_nil)
  (dss_cons (ds_if (dt_not (dt_truth (de_newB (n_all rfl) (by rfl) z_all (by decide +kernel) (dl_comp [("machine", 1)] rfl sc.nd (di_seq (de_var 0)) (blkOk_by (N := ["machines", "machine", "letters"]) (sc := defScope s_again) (by decide +kernel)) (fun _ _ _ _ _ => (dg_name (i := 1) sc.nd)) (fun _ _ _ _ _ => dts_nil) (fun _ _ _ _ _ => (de_callD d_is_machine (hr.mono (by decide)) (by rfl) takesN (da_cons (de_var 1) da_nil))))))) (dss_one ds_never) dss_nil)
  (dss_cons (ds_set (i := 2) sc.nd (de_callB c_len (by rfl) z_len (by decide +kernel) (da_cons (de_ix (de_ix (de_ix (de_var 0) de_int) de_int) de_int) da_nil)))
  (dss_cons (ds_if (dt_neNil hr.units (de_new (dl_comp [("machine", 1)] rfl sc.nd (di_seq (de_var 0)) (blkOk_by (N := ["machines", "machine", "letters"]) (sc := defScope s_again) (by decide +kernel)) (fun _ _ _ _ _ => (dg_name (i := 1) sc.nd)) (fun _ _ _ _ _ => (dts_one (dt_cmp (d_ne hr.units) (de_callB c_len (by rfl) z_len (by decide +kernel) (da_cons (de_ix (de_ix (de_var 1) de_int) de_int) da_nil)) (de_var 2) (nomark _)))) (fun _ _ _ _ _ => (de_var 1))))) (dss_one ds_never) dss_nil)
  (dss_one (ds_ret (de_callG d_come_again gd (hr.mono (by decide)) (by rfl) tk (da_cons (de_var 0) da_nil)))))))), fun ds m q h => rdok_again P_come_again h⟩
def mk_law_state {f : Addr} {fd : FuncData} (F : Fun K "_law_state" "_law_state" s_law_state f fd) (g : mg "_law_state" = some (.ref f)) (z_len : mg "len" = none) (z_abs : mg "abs" = none) : DefAt P w K mg base 1 "_law_state" ["_law_script", "_law_k"] sp_law_state where
  f := f
  fd := fd
  g := g
  kp := F.kp
  b := F.binds (ps := ["_law_script", "_law_k"]) fun _ _ _ _ _ _ us hl => match us, hl with | [_, _], _ => rfl
  ok := by
    have sc := sc_law_state
    refine fnD_of F sc (fun h => sp2_len h) fun cdv A outer s H E B qe hr tk po => ?_
    refine ⟨rd_law_state (fun cls _ m => qe cls m), (dss_cons (ds_set (i := 2) sc.nd (de_ifExp (dt_neNil hr.units (de_var 0)) (de_callB c_abs (by rfl) z_abs (by decide +kernel) (da_cons (de_ix (de_var 0) (de_op d_mod (de_var 1) (de_callB c_len (by rfl) z_len (by decide +kernel) (da_cons (de_var 0) da_nil)))) da_nil)) de_int))
  (dss_cons (ds_if (dt_cmp d_ge (de_var 2) (de_op d_pow de_int de_int) (nomark _)) (dss_one (ds_ret (de_new (dl_lst (da_cons (de_op d_sub (de_var 2) (de_op d_pow de_int de_int)) da_nil))))) dss_nil)
  (dss_cons (ds_set (i := 3) sc.nd de_int)
  (dss_cons (ds_set (i := 4) sc.nd (de_new (dl_lst (da_cons de_int (da_cons de_int (da_cons de_int (da_cons de_int (da_cons de_int (da_cons de_int (da_cons de_int (da_cons de_int da_nil)))))))))))
  (dss_cons (ds_for (vs := [5]) po rfl (di_seq (de_op d_add (de_var 4) (de_new (dl_lst (da_cons de_int (da_cons de_int (da_cons de_int (da_cons de_int (da_cons de_int (da_cons de_int (da_cons de_int da_nil))))))))))) (dg_name (i := 5) sc.nd) (dss_cons (ds_set (i := 6) sc.nd (de_op d_mod (de_op d_mul (de_op d_pow (de_op d_add (de_op d_add (de_op d_mod (de_var 2) (de_var 5)) (de_op d_mul de_int (de_var 1))) de_int) de_int) de_int) (de_var 5)))
  (dss_one (ds_set (i := 3) sc.nd (de_op d_add (de_op d_mul (de_var 3) de_int) (de_op d_mod (de_op d_mul (de_var 6) (de_op d_add (de_var 6) (de_op d_fdiv (de_var 5) de_int))) (de_var 5)))))))
  (dss_one (ds_ret (de_new (dl_lst (da_cons (de_var 3) da_nil)))))))))), fun ds m q h => rdok_law_state h⟩
def mk_law_next {f : Addr} {fd : FuncData} (F : Fun K "_law_next" "_law_next" s_law_next f fd) (g : mg "_law_next" = some (.ref f))  : DefAt P w K mg base 1 "_law_next" ["_law_state_here", "_law_most"] sp_law_next where
  f := f
  fd := fd
  g := g
  kp := F.kp
  b := F.binds (ps := ["_law_state_here", "_law_most"]) fun _ _ _ _ _ _ us hl => match us, hl with | [_, _], _ => rfl
  ok := by
    have sc := sc_law_next
    refine fnD_of F sc (fun h => sp2_len h) fun cdv A outer s H E B qe hr tk po => ?_
    refine ⟨rd_law_next (fun cls _ m => qe cls m), (dss_cons (ds_set (i := 2) sc.nd (de_op d_mod (de_ix (de_var 0) de_int) (de_var 1)))
  (dss_cons (ds_setIx (de_op d_fdiv (de_ix (de_var 0) de_int) (de_var 1)) (de_var 0) de_int)
  (dss_one (ds_ret (de_var 2))))), fun ds m q h => rdok_law_next h⟩
def mk_law_turn {f : Addr} {fd : FuncData} (F : Fun K "_law_turn" "_law_turn" s_law_turn f fd) (g : mg "_law_turn" = some (.ref f)) (z_list : mg "list" = none) (z_range : mg "range" = none) (d_law_next : DefAt P w K mg base 1 "_law_next" ["_law_state_here", "_law_most"] sp_law_next) (z_len : mg "len" = none) (z_tuple : mg "tuple" = none) : DefAt P w K mg base 2 "_law_turn" ["_law_state_here", "_law_many", "_law_kinds"] sp_law_turn where
  f := f
  fd := fd
  g := g
  kp := F.kp
  b := F.binds (ps := ["_law_state_here", "_law_many", "_law_kinds"]) fun _ _ _ _ _ _ us hl => match us, hl with | [_, _, _], _ => rfl
  ok := by
    have sc := sc_law_turn
    refine fnD_of F sc (fun h => sp3_len h) fun cdv A outer s H E B qe hr tk po => ?_
    refine ⟨rd_law_turn (fun cls _ m => qe cls m), (dss_cons (ds_set (i := 3) sc.nd (de_new (dl_listRg1 rfl (by rfl) z_list (by rfl) z_range (de_var 1))))
  (dss_cons (ds_setLc (i := 5) [("_law_k", 4)] rfl sc.nd rfl rfl (sw_true rfl rfl rfl (by decide +kernel)) (di_range1 (by rfl) z_range (de_var 1)) (blkOk_by (N := ["_law_state_here", "_law_many", "_law_kinds", "_law_left", "_law_k", "_law_turn_here"]) (sc := defScope s_law_turn) (by decide +kernel)) (fun _ _ _ _ _ => (dg_name (i := 4) sc.nd)) (fun _ _ _ _ _ => dts_nil) (fun _ _ _ _ _ => (de_bmL PySem.F.slot_list_pop PySem.F.type_list_pop m_popAt (de_var 3) (da_cons (de_callD d_law_next (hr.mono (by decide)) (by rfl) takesN (da_cons (de_var 0) (da_cons (de_callB c_len (by rfl) z_len (by decide +kernel) (da_cons (de_var 3) da_nil)) da_nil))) da_nil))))
  (dss_cons (ds_if (dt_cmp (d_eq hr.units) (de_var 2) de_int (nomark _)) (dss_one (ds_ret (de_tupRgF1 rfl (by rfl) z_tuple (by rfl) z_range (de_var 1)))) dss_nil)
  (dss_cons (ds_if (dt_cmp (d_eq hr.units) (de_var 2) de_int (nomark _)) (dss_one (ds_ret (de_op d_addF3 (de_tupF (da_cons de_int (da_cons de_int da_nil))) (de_tupRg2 rfl (by rfl) z_tuple (by rfl) z_range de_int (de_var 1))))) dss_nil)
  (dss_one (ds_ret (de_callTy c_ftuple (by rfl) z_tuple (by decide +kernel) (da_cons (de_var 5) da_nil)))))))), fun ds m q h => rdok_law_turn h⟩
def mk_law_machine {f : Addr} {fd : FuncData} (F : Fun K "_law_machine" "_law_machine" s_law_machine f fd) (g : mg "_law_machine" = some (.ref f)) (d_law_next : DefAt P w K mg base 1 "_law_next" ["_law_state_here", "_law_most"] sp_law_next) (z_range : mg "range" = none) (d_law_turn : DefAt P w K mg base 2 "_law_turn" ["_law_state_here", "_law_many", "_law_kinds"] sp_law_turn) (z_max : mg "max" = none) (z_tuple : mg "tuple" = none) : DefAt P w K mg base 3 "_law_machine" ["_law_state_here", "_law_many"] sp_law_machine where
  f := f
  fd := fd
  g := g
  kp := F.kp
  b := F.binds (ps := ["_law_state_here", "_law_many"]) fun _ _ _ _ _ _ us hl => match us, hl with | [_, _], _ => rfl
  ok := by
    have sc := sc_law_machine
    refine fnD_of F sc (fun h => sp2_len h) fun cdv A outer s H E B qe hr tk po => ?_
    refine ⟨rd_law_machine (fun cls _ m => qe cls m), (dss_cons (ds_set (i := 2) sc.nd (de_cmp (d_eq hr.units) (de_callD d_law_next (hr.mono (by decide)) (by rfl) tk (da_cons (de_var 0) (da_cons de_int da_nil))) de_int (nomark _)))
  (dss_cons (ds_set (i := 3) sc.nd (de_op d_add de_int (de_callD d_law_next (hr.mono (by decide)) (by rfl) tk (da_cons (de_var 0) (da_cons de_int da_nil)))))
  (dss_cons (ds_set (i := 4) sc.nd (de_new (dl_lst da_nil)))
  (dss_cons (ds_for (vs := [5]) po rfl (di_range1 (by rfl) z_range (de_var 3)) (dg_name (i := 5) sc.nd) (dss_cons (ds_set (i := 6) sc.nd (de_callD d_law_turn (hr.mono (by decide)) (by rfl) tk (da_cons (de_var 0) (da_cons (de_var 1) (da_cons (de_callD d_law_next (hr.mono (by decide)) (by rfl) tk (da_cons (de_var 0) (da_cons de_int da_nil))) da_nil)))))
  (dss_cons (ds_setLc (i := 8) [("_law_letter", 7)] rfl sc.nd rfl rfl (sw_true rfl rfl rfl (by decide +kernel)) (di_range1 (by rfl) z_range (de_var 1)) (blkOk_by (N := ["_law_state_here", "_law_many", "_law_onward", "_law_size", "_law_rooms", "_law_k", "_law_turn_here", "_law_letter", "_law_there", "_law_one"]) (sc := defScope s_law_machine) (by decide +kernel)) (fun _ _ _ _ _ => (dg_name (i := 7) sc.nd)) (fun _ _ _ _ _ => dts_nil) (fun _ _ _ _ _ => (de_callD d_law_next (hr.mono (by decide)) (by rfl) takesN (da_cons (de_var 0) (da_cons (de_var 3) da_nil)))))
  (dss_cons (ds_if (dt_truth (de_var 2)) (dss_one (ds_setLc (i := 8) [("_law_one", 9)] rfl sc.nd rfl rfl (sw_true rfl rfl rfl (by decide +kernel)) (di_seq (de_var 8)) (blkOk_by (N := ["_law_state_here", "_law_many", "_law_onward", "_law_size", "_law_rooms", "_law_k", "_law_turn_here", "_law_letter", "_law_there", "_law_one"]) (sc := defScope s_law_machine) (by decide +kernel)) (fun _ _ _ _ _ => (dg_name (i := 9) sc.nd)) (fun _ _ _ _ _ => dts_nil) (fun _ _ _ _ _ => (de_callB (c_max2 rfl) (by rfl) z_max (by decide +kernel) (da_cons (de_var 5) (da_cons (de_var 9) da_nil)))))) dss_nil)
  (dss_one (ds_expr (de_bmL PySem.F.slot_list_append PySem.F.type_list_append m_append (de_var 4) (da_cons (de_tup (da_cons (de_var 6) (da_cons (de_callTy c_tuple (by rfl) z_tuple (by decide +kernel) (da_cons (de_var 8) da_nil)) da_nil))) da_nil))))))))
  (dss_one (ds_ret (de_callTy c_tuple (by rfl) z_tuple (by decide +kernel) (da_cons (de_var 4) da_nil)))))))), fun ds m q h => rdok_law_machine h⟩
def mk_law_come {f : Addr} {fd : FuncData} (F : Fun K "_law_come" "_law_come" s_law_come f fd) (g : mg "_law_come" = some (.ref f)) (z_len : mg "len" = none) : DefAt P w K mg base 1 "_law_come" ["_law_rooms", "_law_first"] sp_law_come where
  f := f
  fd := fd
  g := g
  kp := F.kp
  b := F.binds (ps := ["_law_rooms", "_law_first"]) fun _ _ _ _ _ _ us hl => match us, hl with | [_, _], _ => rfl
  ok := by
    have sc := sc_law_come
    refine fnD_of F sc (fun h => sp2_len h) fun cdv A outer s H E B qe hr tk po => ?_
    refine ⟨rd_law_come (fun cls _ m => qe cls m), (dss_cons (ds_set (i := 2) sc.nd (de_new (dl_lst (da_cons (de_var 1) da_nil))))
  (dss_cons (ds_set (i := 3) sc.nd de_int)
  (dss_cons (ds_while po (dt_cmp d_lt (de_var 3) (de_callB c_len (by rfl) z_len (by decide +kernel) (da_cons (de_var 2) da_nil)) (nomark _)) (dss_cons (ds_for (vs := [4]) po rfl (di_seq (de_ix (de_ix (de_var 0) (de_ix (de_var 2) (de_var 3))) de_int)) (dg_name (i := 4) sc.nd) (dss_one (ds_if (dt_cmp (d_notInA (room65 hr)) (de_var 4) (de_var 2) (by rfl)) (dss_one (ds_expr (de_bmL PySem.F.slot_list_append PySem.F.type_list_append m_append (de_var 2) (da_cons (de_var 4) da_nil)))) dss_nil)))
  (dss_one (ds_set (i := 3) sc.nd (de_op d_add (de_var 3) de_int)))))
  (dss_one (ds_ret (de_var 2)))))), fun ds m q h => rdok_law_come h⟩
def mk_law_numbered {f : Addr} {fd : FuncData} (F : Fun K "_law_numbered" "_law_numbered" s_law_numbered f fd) (g : mg "_law_numbered" = some (.ref f)) (z_zip : mg "zip" = none) : DefAt P w K mg base 1 "_law_numbered" ["_law_rows", "_law_rooms"] sp_law_numbered where
  f := f
  fd := fd
  g := g
  kp := F.kp
  b := F.binds (ps := ["_law_rows", "_law_rooms"]) fun _ _ _ _ _ _ us hl => match us, hl with | [_, _], _ => rfl
  ok := by
    have sc := sc_law_numbered
    refine fnD_of F sc (fun h => sp2_len h) fun cdv A outer s H E B qe hr tk po => ?_
    refine ⟨rd_law_numbered (fun cls _ m => qe cls m), (dss_cons (ds_set (i := 2) sc.nd (de_new (dl_lst da_nil)))
  (dss_cons (ds_set (i := 3) sc.nd de_dict0)
  (dss_cons (ds_for (vs := [4, 5]) po rfl (di_zip (by rfl) z_zip (de_var 1) (de_var 0)) (dg_tup rfl (dgs_cons (dg_name (i := 4) sc.nd) (dgs_cons (dg_name (i := 5) sc.nd) dgs_nil))) (dss_cons (ds_if (dt_cmp (d_notInA (room65 hr)) (de_var 5) (de_var 2) (by rfl)) (dss_one (ds_expr (de_bmL PySem.F.slot_list_append PySem.F.type_list_append m_append (de_var 2) (da_cons (de_var 5) da_nil)))) dss_nil)
  (dss_one (ds_setG hr.units (de_bmL PySem.F.slot_list_index PySem.F.type_list_index (m_lidx (room65 hr)) (de_var 2) (da_cons (de_var 5) da_nil)) (de_var 3) (de_var 4)))))
  (dss_one (ds_ret (de_var 3)))))), fun ds m q h => rdok_law_numbered h⟩
def mk_law_least {f : Addr} {fd : FuncData} (F : Fun K "_law_least" "_law_least" s_law_least f fd) (g : mg "_law_least" = some (.ref f)) (d_law_come : DefAt P w K mg base 1 "_law_come" ["_law_rooms", "_law_first"] sp_law_come) (d_law_numbered : DefAt P w K mg base 1 "_law_numbered" ["_law_rows", "_law_rooms"] sp_law_numbered) (z_max : mg "max" = none) (z_range : mg "range" = none) (z_tuple : mg "tuple" = none) : DefAt P w K mg base 2 "_law_least" ["_law_rooms", "_law_first"] sp_law_least where
  f := f
  fd := fd
  g := g
  kp := F.kp
  b := F.binds (ps := ["_law_rooms", "_law_first"]) fun _ _ _ _ _ _ us hl => match us, hl with | [_, _], _ => rfl
  ok := by
    have sc := sc_law_least
    refine fnD_of F sc (fun h => sp2_len h) fun cdv A outer s H E B qe hr tk po => ?_
    refine ⟨rd_law_least (fun cls _ m => qe cls m), (dss_cons (ds_set (i := 2) sc.nd (de_callD d_law_come (hr.mono (by decide)) (by rfl) tk (da_cons (de_var 0) (da_cons (de_var 1) da_nil))))
  (dss_cons (ds_set (i := 4) sc.nd (de_callD d_law_numbered (hr.mono (by decide)) (by rfl) tk (da_cons (de_new (dl_comp [("_law_room", 3)] rfl sc.nd (di_seq (de_var 2)) (blkOk_by (N := ["_law_rooms", "_law_first", "_law_come_here", "_law_room", "_law_kinds", "_law_many", "_law_there", "_law_rows", "_law_kind", "_law_firsts", "_law_small", "_law_placing"]) (sc := defScope s_law_least) (by decide +kernel)) (fun _ _ _ _ _ => (dg_name (i := 3) sc.nd)) (fun _ _ _ _ _ => dts_nil) (fun _ _ _ _ _ => (de_ixG hr.units (de_ixG hr.units (de_var 0) (de_var 3)) de_int)))) (da_cons (de_var 2) da_nil))))
  (dss_cons (ds_set (i := 5) sc.nd de_int)
  (dss_cons (ds_while po (dt_cmp d_lt (de_var 5) (de_op d_add (de_maxV z_max rfl (de_var 4) dk_nil) de_int) (nomark _)) (dss_cons (ds_set (i := 5) sc.nd (de_op d_add (de_maxV z_max rfl (de_var 4) dk_nil) de_int))
  (dss_cons (ds_setLc (i := 7) [("_law_room", 3)] rfl sc.nd rfl rfl (sw_true rfl rfl rfl (by decide +kernel)) (di_seq (de_var 2)) (blkOk_by (N := ["_law_rooms", "_law_first", "_law_come_here", "_law_room", "_law_kinds", "_law_many", "_law_there", "_law_rows", "_law_kind", "_law_firsts", "_law_small", "_law_placing"]) (sc := defScope s_law_least) (by decide +kernel)) (fun _ _ _ _ _ => (dg_name (i := 3) sc.nd)) (fun _ _ _ _ _ => dts_nil) (fun _ _ _ _ _ => (de_tup (da_cons (de_ixG hr.units (de_var 4) (de_var 3)) (da_cons (de_new (dl_comp [("_law_there", 6)] rfl sc.nd (di_seq (de_ixG hr.units (de_ixG hr.units (de_var 0) (de_var 3)) de_int)) (blkOk_by (by kernel_rfl)) (fun _ _ _ _ _ => (dg_name (i := 6) sc.nd)) (fun _ _ _ _ _ => dts_nil) (fun _ _ _ _ _ => (de_ixG hr.units (de_var 4) (de_var 6))))) da_nil)))))
  (dss_one (ds_set (i := 4) sc.nd (de_callD d_law_numbered (hr.mono (by decide)) (by rfl) tk (da_cons (de_var 7) (da_cons (de_var 2) da_nil))))))))
  (dss_cons (ds_setLc (i := 9) [("_law_kind", 8)] rfl sc.nd rfl rfl (sw_true rfl rfl rfl (by decide +kernel)) (di_range1 (by rfl) z_range (de_var 5)) (blkOk_by (N := ["_law_rooms", "_law_first", "_law_come_here", "_law_room", "_law_kinds", "_law_many", "_law_there", "_law_rows", "_law_kind", "_law_firsts", "_law_small", "_law_placing"]) (sc := defScope s_law_least) (by decide +kernel)) (fun _ _ _ _ _ => (dg_name (i := 8) sc.nd)) (fun _ _ _ _ _ => dts_nil) (fun _ _ _ _ _ => (de_ixG hr.units (de_new (dl_comp [("_law_room", 3)] rfl sc.nd (di_seq (de_var 2)) (blkOk_by (by kernel_rfl)) (fun _ _ _ _ _ => (dg_name (i := 3) sc.nd)) (fun _ _ _ _ _ => (dts_one (dt_cmp (d_eq hr.units) (de_ixG hr.units (de_var 4) (de_var 3)) (de_var 8) (nomark _)))) (fun _ _ _ _ _ => (de_var 3)))) de_int)))
  (dss_cons (ds_set (i := 10) sc.nd (de_new (dl_comp [("_law_room", 3)] rfl sc.nd (di_seq (de_var 9)) (blkOk_by (N := ["_law_rooms", "_law_first", "_law_come_here", "_law_room", "_law_kinds", "_law_many", "_law_there", "_law_rows", "_law_kind", "_law_firsts", "_law_small", "_law_placing"]) (sc := defScope s_law_least) (by decide +kernel)) (fun _ _ _ _ _ => (dg_name (i := 3) sc.nd)) (fun _ _ _ _ _ => dts_nil) (fun _ _ _ _ _ => (de_tup (da_cons (de_ixG hr.units (de_ixG hr.units (de_var 0) (de_var 3)) de_int) (da_cons (de_new (dl_comp [("_law_there", 6)] rfl sc.nd (di_seq (de_ixG hr.units (de_ixG hr.units (de_var 0) (de_var 3)) de_int)) (blkOk_by (by kernel_rfl)) (fun _ _ _ _ _ => (dg_name (i := 6) sc.nd)) (fun _ _ _ _ _ => dts_nil) (fun _ _ _ _ _ => (de_ixG hr.units (de_var 4) (de_var 6))))) da_nil)))))) (hs := sw_cell rfl))
  (dss_cons (ds_set (i := 11) sc.nd (de_callD d_law_come (hr.mono (by decide)) (by rfl) tk (da_cons (de_var 10) (da_cons (de_ixG hr.units (de_var 4) (de_var 1)) da_nil))))
  (dss_one (ds_ret (de_newTy n_tuple (by rfl) z_tuple (by decide +kernel) (dl_comp [("_law_kind", 8)] rfl sc.nd (di_seq (de_var 11)) (blkOk_by (N := ["_law_rooms", "_law_first", "_law_come_here", "_law_room", "_law_kinds", "_law_many", "_law_there", "_law_rows", "_law_kind", "_law_firsts", "_law_small", "_law_placing"]) (sc := defScope s_law_least) (by decide +kernel)) (fun _ _ _ _ _ => (dg_name (i := 8) sc.nd)) (fun _ _ _ _ _ => dts_nil) (fun _ _ _ _ _ => (de_tup (da_cons (de_ixG hr.units (de_ixG hr.units (de_var 10) (de_var 8)) de_int) (da_cons (de_newTy n_tuple (by rfl) z_tuple (by decide +kernel) (dl_comp [("_law_there", 6)] rfl sc.nd (di_seq (de_ixG hr.units (de_ixG hr.units (de_var 10) (de_var 8)) de_int)) (blkOk_by (by kernel_rfl)) (fun _ _ _ _ _ => (dg_name (i := 6) sc.nd)) (fun _ _ _ _ _ => dts_nil) (fun _ _ _ _ _ => (de_bmL PySem.F.slot_list_index PySem.F.type_list_index (m_lidx (room65 hr)) (de_var 11) (da_cons (de_var 6) da_nil))))) da_nil))))))))))))))), fun ds m q h => rdok_law_least h⟩
def mk_law_arrows {f : Addr} {fd : FuncData} (F : Fun K "_law_arrows" "_law_arrows" s_law_arrows f fd) (g : mg "_law_arrows" = some (.ref f)) (d_law_come : DefAt P w K mg base 1 "_law_come" ["_law_rooms", "_law_first"] sp_law_come) (d_law_least : DefAt P w K mg base 2 "_law_least" ["_law_rooms", "_law_first"] sp_law_least) : DefAt P w K mg base 3 "_law_arrows" ["_law_machines"] sp_law_arrows where
  f := f
  fd := fd
  g := g
  kp := F.kp
  b := F.binds (ps := ["_law_machines"]) fun _ _ _ _ _ _ us hl => match us, hl with | [_], _ => rfl
  ok := by
    have sc := sc_law_arrows
    refine fnD_of F sc (fun h => sp1_len h) fun cdv A outer s H E B qe hr tk po => ?_
    refine ⟨rd_law_arrows (fun cls _ m => qe cls m), (dss_cons (ds_set (i := 1) sc.nd de_dictT)
  (dss_cons (ds_for (vs := [2]) po rfl (di_seq (de_var 0)) (dg_name (i := 2) sc.nd) (dss_one (ds_for (vs := [3]) po rfl (di_seq (de_callD d_law_come (hr.mono (by decide)) (by rfl) tk (da_cons (de_var 2) (da_cons de_int da_nil)))) (dg_name (i := 3) sc.nd) (dss_cons (ds_set (i := 4) sc.nd (de_callD d_law_least (hr.mono (by decide)) (by rfl) tk (da_cons (de_var 2) (da_cons (de_var 3) da_nil))))
  (dss_one (ds_if (dt_cmp (d_notIn hr.units) (de_var 4) (de_var 1) (by rfl)) (dss_one (ds_setG hr.units (de_new (dl_comp [("_law_there", 5)] rfl sc.nd (di_seq (de_ixG hr.units (de_ixG hr.units (de_var 4) de_int) de_int)) (blkOk_by (N := ["_law_machines", "_law_found", "_law_machine_here", "_law_room", "_law_one", "_law_there"]) (sc := defScope s_law_arrows) (by decide +kernel)) (fun _ _ _ _ _ => (dg_name (i := 5) sc.nd)) (fun _ _ _ _ _ => dts_nil) (fun _ _ _ _ _ => (de_callD d_law_least (hr.mono (by decide)) (by rfl) takesN (da_cons (de_var 4) (da_cons (de_var 5) da_nil)))))) (de_var 1) (de_var 4))) dss_nil))))))
  (dss_one (ds_ret (de_var 1))))), fun ds m q h => rdok_law_arrows h⟩
def mk_law_led {f : Addr} {fd : FuncData} (F : Fun K "_law_led" "_law_led" s_law_led f fd) (g : mg "_law_led" = some (.ref f)) (z_list : mg "list" = none) : DefAt P w K mg base 1 "_law_led" ["_law_arrows_here", "_law_firsts"] sp_law_led where
  f := f
  fd := fd
  g := g
  kp := F.kp
  b := F.binds (ps := ["_law_arrows_here", "_law_firsts"]) fun _ _ _ _ _ _ us hl => match us, hl with | [_, _], _ => rfl
  ok := by
    have sc := sc_law_led
    refine fnD_of F sc (fun h => sp2_len h) fun cdv A outer s H E B qe hr tk po => ?_
    refine ⟨rd_law_led (fun cls _ m => qe cls m), (dss_cons (ds_set (i := 2) sc.nd (de_new (dl_lst da_nil)))
  (dss_cons (ds_set (i := 3) sc.nd (de_new (dl_callTy l_list (by rfl) z_list (by decide +kernel) (de_var 1))))
  (dss_cons (ds_while po (dt_neNil hr.units (de_var 3)) (dss_cons (ds_set (i := 4) sc.nd (de_bmL0 PySem.F.slot_list_pop PySem.F.type_list_pop m_pop (de_var 3)))
  (dss_one (ds_if (dt_cmp (d_notInA (room65 hr)) (de_var 4) (de_var 2) (by rfl)) (dss_cons (ds_expr (de_bmL PySem.F.slot_list_append PySem.F.type_list_append m_append (de_var 2) (da_cons (de_var 4) da_nil)))
  (dss_one (ds_set (i := 3) sc.nd (de_op d_add (de_var 3) (de_ixG hr.units (de_var 0) (de_var 4)))))) dss_nil))))
  (dss_one (ds_ret (de_var 2)))))), fun ds m q h => rdok_law_led h⟩
def mk_law_due {f : Addr} {fd : FuncData} (F : Fun K "_law_due" "_law_due" s_law_due f fd) (g : mg "_law_due" = some (.ref f)) (d_law_arrows : DefAt P w K mg base 3 "_law_arrows" ["_law_machines"] sp_law_arrows) (d_law_led : DefAt P w K mg base 1 "_law_led" ["_law_arrows_here", "_law_firsts"] sp_law_led) (z_len : mg "len" = none) (z_sorted : mg "sorted" = none) : DefAt P w K mg base 4 "_law_due" ["_law_machines"] sp_law_due where
  f := f
  fd := fd
  g := g
  kp := F.kp
  b := F.binds (ps := ["_law_machines"]) fun _ _ _ _ _ _ us hl => match us, hl with | [_], _ => rfl
  ok := by
    have sc := sc_law_due
    refine fnD_of F sc (fun h => sp1_len h) fun cdv A outer s H E B qe hr tk po => ?_
    refine ⟨rd_law_due (fun cls _ m => qe cls m), (dss_cons (ds_set (i := 1) sc.nd (de_callD d_law_arrows (hr.mono (by decide)) (by rfl) tk (da_cons (de_var 0) da_nil)))
  (dss_cons (ds_setLc (i := 3) [("_law_one", 2)] rfl sc.nd rfl rfl (sw_true rfl rfl rfl (by decide +kernel)) (di_keysT (de_var 1)) (blkOk_by (N := ["_law_machines", "_law_arrows_here", "_law_one", "_law_home", "_law_found", "_law_many"]) (sc := defScope s_law_due) (by decide +kernel)) (fun _ _ _ _ _ => (dg_name (i := 2) sc.nd)) (fun _ _ _ _ _ => (dts_one (dt_cmp (d_inA (room65 hr)) (de_var 2) (de_callD d_law_led (hr.mono (by decide)) (by rfl) takesN (da_cons (de_var 1) (da_cons (de_ixG hr.units (de_var 1) (de_var 2)) da_nil))) (by rfl)))) (fun _ _ _ _ _ => (de_var 2)))
  (dss_cons (ds_setLc (i := 4) [("_law_one", 2)] rfl sc.nd rfl rfl (sw_true rfl rfl rfl (by decide +kernel)) (di_seq (de_callD d_law_led (hr.mono (by decide)) (by rfl) tk (da_cons (de_var 1) (da_cons (de_var 3) da_nil)))) (blkOk_by (N := ["_law_machines", "_law_arrows_here", "_law_one", "_law_home", "_law_found", "_law_many"]) (sc := defScope s_law_due) (by decide +kernel)) (fun _ _ _ _ _ => (dg_name (i := 2) sc.nd)) (fun _ _ _ _ _ => dts_nil) (fun _ _ _ _ _ => (de_tup (da_cons (de_callB c_lenG (by rfl) z_len (by decide +kernel) (da_cons (de_var 2) da_nil)) (da_cons (de_var 2) da_nil)))))
  (dss_one (ds_ret (de_new (dl_comp [("_law_many", 5), ("_law_one", 2)] rfl sc.nd (di_new (dl_callB (l_sortX (room65 hr)) (by rfl) z_sorted (by decide +kernel) (de_var 4))) (blkOk_by (N := ["_law_machines", "_law_arrows_here", "_law_one", "_law_home", "_law_found", "_law_many"]) (sc := defScope s_law_due) (by decide +kernel)) (fun _ _ _ _ _ => (dg_tup rfl (dgs_cons (dg_name (i := 5) sc.nd) (dgs_cons (dg_name (i := 2) sc.nd) dgs_nil)))) (fun _ _ _ _ _ => dts_nil) (fun _ _ _ _ _ => (de_var 2))))))))), fun ds m q h => rdok_law_due h⟩
def mk_law_formed {f : Addr} {fd : FuncData} (F : Fun K "_law_formed" "_law_formed" s_law_formed f fd) (g : mg "_law_formed" = some (.ref f)) (z_tuple : mg "tuple" = none) (z_isinstance : mg "isinstance" = none) (z_int : mg "int" = none) (z_bool : mg "bool" = none) : DefAt P w K mg base 1 "_law_formed" ["_law_machine_here"] sp_law_formed where
  f := f
  fd := fd
  g := g
  kp := F.kp
  b := F.binds (ps := ["_law_machine_here"]) fun _ _ _ _ _ _ us hl => match us, hl with | [_], _ => rfl
  ok := by
    have sc := sc_law_formed
    refine fnD_of F sc (fun h => sp1_len h) fun cdv A outer s H E B qe hr tk po => ?_
    refine ⟨rd_law_formed (fun cls _ m => qe cls m), (dss_cons (ds_if (dt_w (dw_or (dt_not (dt_truth (de_callB c_isi (by rfl) z_isinstance (by decide +kernel) (da_cons (de_var 0) (da_cons (de_ty (by rfl) z_tuple (by decide +kernel)) da_nil))))) (dw_or1 (dt_neNil hr.units (de_new (dl_comp [("_law_room", 1)] rfl sc.nd (di_seq (de_var 0)) (blkOk_by (N := ["_law_machine_here", "_law_room", "_law_part", "_law_one"]) (sc := defScope s_law_formed) (by decide +kernel)) (fun _ _ _ _ _ => (dg_name (i := 1) sc.nd)) (fun _ _ _ _ _ => (dts_one (dt_not (dt_truth (de_callB c_isi (by rfl) z_isinstance (by decide +kernel) (da_cons (de_var 1) (da_cons (de_ty (by rfl) z_tuple (by decide +kernel)) da_nil))))))) (fun _ _ _ _ _ => (de_var 1)))))))) (dss_one (ds_ret de_bl)) dss_nil)
  (dss_cons (ds_for (vs := [1]) po rfl (di_seq (de_var 0)) (dg_name (i := 1) sc.nd) (dss_one (ds_for (vs := [2]) po rfl (di_seq (de_var 1)) (dg_name (i := 2) sc.nd) (dss_one (ds_if (dt_w (dw_or (dt_not (dt_truth (de_callB c_isi (by rfl) z_isinstance (by decide +kernel) (da_cons (de_var 2) (da_cons (de_ty (by rfl) z_tuple (by decide +kernel)) da_nil))))) (dw_or1 (dt_truth (de_new (dl_comp [("_law_one", 3)] rfl sc.nd (di_seq (de_var 2)) (blkOk_by (N := ["_law_machine_here", "_law_room", "_law_part", "_law_one"]) (sc := defScope s_law_formed) (by decide +kernel)) (fun _ _ _ _ _ => (dg_name (i := 3) sc.nd)) (fun _ _ _ _ _ => (dts_one (dt_w (dw_or (dt_not (dt_truth (de_callB c_isi (by rfl) z_isinstance (by decide +kernel) (da_cons (de_var 3) (da_cons (de_ty (by rfl) z_int (by decide +kernel)) da_nil))))) (dw_or1 (dt_truth (de_callB c_isi (by rfl) z_isinstance (by decide +kernel) (da_cons (de_var 3) (da_cons (de_ty (by rfl) z_bool (by decide +kernel)) da_nil))))))))) (fun _ _ _ _ _ => de_int))))))) (dss_one (ds_ret de_bl)) dss_nil)))))
  (dss_one (ds_ret de_bl)))), fun ds m q h => rdok_law_formed h⟩
def mk_law {P_come_again : Addr} {cc_come_again : Addr} {f : Addr} {fd : FuncData} (F : Fun K "law" "law" s_law f fd) (g : mg "law" = some (.ref f)) (z_len : mg "len" = none) (z_min : mg "min" = none) (z_max : mg "max" = none) (z_range : mg "range" = none) (d_law_state : DefAt P w K mg base 1 "_law_state" ["_law_script", "_law_k"] sp_law_state) (d_law_next : DefAt P w K mg base 1 "_law_next" ["_law_state_here", "_law_most"] sp_law_next) (d_law_machine : DefAt P w K mg base 3 "_law_machine" ["_law_state_here", "_law_many"] sp_law_machine) (d_law_least : DefAt P w K mg base 2 "_law_least" ["_law_rooms", "_law_first"] sp_law_least) (d_law_due : DefAt P w K mg base 4 "_law_due" ["_law_machines"] sp_law_due) (z_tuple : mg "tuple" = none) (z_list : mg "list" = none) (d_again : DefG P w K mg base 13 "again" ["machines"] (sp_again P_come_again)) (z_isinstance : mg "isinstance" = none) (d_law_formed : DefAt P w K mg base 1 "_law_formed" ["_law_machine_here"] sp_law_formed) : DefG P w K mg base 14 "law" ["_law_script"] (spLawT 63 [(cc_come_again, P_come_again, lamQ "come_again")]) where
  f := f
  fd := fd
  g := g
  kp := F.kp
  b := F.binds (ps := ["_law_script"]) fun _ _ _ _ _ _ us hl => match us, hl with | [_], _ => rfl
  ok := by
    have sc := sc_law
    refine fnDG_of F sc (fun h => sp1_len h) fun cdv A outer s H E B qe hr gd tk po => ?_
    refine ⟨rd_law P_come_again (fun cls _ m => qe cls m), (dss_cons (ds_for (vs := [1]) po rfl (di_range1 (by rfl) z_range (de_callB (c_max2 rfl) (by rfl) z_max (by decide +kernel) (da_cons de_int (da_cons (de_callB (c_min2 rfl) (by rfl) z_min (by decide +kernel) (da_cons de_int (da_cons (de_callB c_len (by rfl) z_len (by decide +kernel) (da_cons (de_var 0) da_nil)) da_nil))) da_nil)))) (dg_name (i := 1) sc.nd) (dss_cons (ds_set (i := 2) sc.nd (de_callD d_law_state (hr.mono (by decide)) (by rfl) tk (da_cons (de_var 0) (da_cons (de_var 1) da_nil))))
  (dss_cons (ds_set (i := 3) sc.nd (de_callD d_law_next (hr.mono (by decide)) (by rfl) tk (da_cons (de_var 2) (da_cons de_int da_nil))))
  (dss_cons (ds_set (i := 4) sc.nd (de_cmp (d_eq hr.units) (de_callD d_law_next (hr.mono (by decide)) (by rfl) tk (da_cons (de_var 2) (da_cons de_int da_nil))) de_int (nomark _)))
  (dss_cons (ds_set (i := 5) sc.nd (de_op d_add de_int (de_callD d_law_next (hr.mono (by decide)) (by rfl) tk (da_cons (de_var 2) (da_cons de_int da_nil)))))
  (dss_cons (ds_setLc (i := 7) [("_law_j", 6)] rfl sc.nd rfl rfl (sw_true rfl rfl rfl (by decide +kernel)) (di_range1 (by rfl) z_range (de_ix (de_new (dl_lst (da_cons de_int (da_cons de_int (da_cons de_int (da_cons de_int da_nil)))))) (de_callD d_law_next (hr.mono (by decide)) (by rfl) tk (da_cons (de_var 2) (da_cons de_int da_nil))))) (blkOk_by (N := ["_law_script", "_law_k", "_law_state_here", "_law_twice", "_law_tupled", "_law_many", "_law_j", "_law_machines", "_law_due_here", "_law_handed", "_law_found", "_law_one", "_law_kept", "_law_told"]) (sc := defScope s_law) (by decide +kernel)) (fun _ _ _ _ _ => (dg_name (i := 6) sc.nd)) (fun _ _ _ _ _ => dts_nil) (fun _ _ _ _ _ => (de_callD d_law_machine (hr.mono (by decide)) (by rfl) takesN (da_cons (de_var 2) (da_cons (de_var 5) da_nil)))))
  (dss_cons (ds_if (dt_cmp (d_eq hr.units) (de_var 3) de_int (nomark _)) (dss_one (ds_expr (de_bmL PySem.F.slot_list_append PySem.F.type_list_append m_append (de_var 7) (da_cons (de_ix (de_var 7) de_int) da_nil)))) dss_nil)
  (dss_cons (ds_if (dt_cmp (d_eq hr.units) (de_var 3) de_int (nomark _)) (dss_one (ds_expr (de_bmL PySem.F.slot_list_append PySem.F.type_list_append m_append (de_var 7) (da_cons (de_callD d_law_least (hr.mono (by decide)) (by rfl) tk (da_cons (de_ix (de_var 7) de_int) (da_cons de_int da_nil))) da_nil)))) dss_nil)
  (dss_cons (ds_set (i := 8) sc.nd (de_callD d_law_due (hr.mono (by decide)) (by rfl) tk (da_cons (de_var 7) da_nil)))
  (dss_cons (ds_set (i := 9) sc.nd (de_ifExp (dt_truth (de_var 4)) (de_callTy c_tuple (by rfl) z_tuple (by decide +kernel) (da_cons (de_var 7) da_nil)) (de_new (dl_callTy l_list (by rfl) z_list (by decide +kernel) (de_var 7)))))
  (dss_cons (ds_set (i := 10) sc.nd (de_callG d_again gd (hr.mono (by decide)) (by rfl) tk (da_cons (de_var 9) da_nil)))
  (dss_cons (ds_if (dt_cmp (d_ne hr.units) (de_new (dl_callTy l_list (by rfl) z_list (by decide +kernel) (de_var 9))) (de_var 7) (nomark _)) (dss_one (ds_ret de_bl)) dss_nil)
  (dss_cons (ds_if (dt_w (dw_or (dt_not (dt_truth (de_callB c_isi (by rfl) z_isinstance (by decide +kernel) (da_cons (de_var 10) (da_cons (de_ty (by rfl) z_list (by decide +kernel)) da_nil))))) (dw_or (dt_cmp (d_ne hr.units) (de_var 10) (de_var 8) (nomark _)) (dw_or1 (dt_cmp (d_inA (room65 hr)) de_bl (de_new (dl_comp [("_law_one", 11)] rfl sc.nd (di_seq (de_var 10)) (blkOk_by (N := ["_law_script", "_law_k", "_law_state_here", "_law_twice", "_law_tupled", "_law_many", "_law_j", "_law_machines", "_law_due_here", "_law_handed", "_law_found", "_law_one", "_law_kept", "_law_told"]) (sc := defScope s_law) (by decide +kernel)) (fun _ _ _ _ _ => (dg_name (i := 11) sc.nd)) (fun _ _ _ _ _ => dts_nil) (fun _ _ _ _ _ => (de_callD d_law_formed (hr.mono (by decide)) (by rfl) takesN (da_cons (de_var 11) da_nil))))) (by rfl)))))) (dss_one (ds_ret de_bl)) dss_nil)
  (dss_cons (ds_expr (de_bmL0 PySem.F.slot_list_reverse PySem.F.type_list_reverse m_reverse (de_var 10)))
  (dss_cons (ds_expr (de_bmL PySem.F.slot_list_append PySem.F.type_list_append m_append (de_var 10) (da_cons (de_ix (de_var 7) de_int) da_nil)))
  (dss_cons (ds_set (i := 12) sc.nd (de_new (dl_callTy l_list (by rfl) z_list (by decide +kernel) (de_var 8))))
  (dss_cons (ds_set (i := 13) sc.nd (de_callG d_again gd (hr.mono (by decide)) (by rfl) tk (da_cons (de_var 8) da_nil)))
  (dss_cons (ds_if (dt_w (dw_or (dt_cmp (d_ne hr.units) (de_callG d_again gd (hr.mono (by decide)) (by rfl) tk (da_cons (de_var 7) da_nil)) (de_var 8) (nomark _)) (dw_or1 (dt_cmp (d_ne hr.units) (de_var 13) (de_var 8) (nomark _))))) (dss_one (ds_ret de_bl)) dss_nil)
  (dss_cons (ds_expr (de_bmL PySem.F.slot_list_append PySem.F.type_list_append m_append (de_var 13) (da_cons (de_ix (de_var 7) de_int) da_nil)))
  (dss_one (ds_if (dt_cmp (d_ne hr.units) (de_var 8) (de_var 12) (nomark _)) (dss_one (ds_ret de_bl)) dss_nil)))))))))))))))))))))
  (dss_one (ds_ret de_bl))), fun ds m q h => rdok_law P_come_again h⟩
end
theorem all_mk {l : PySem.W.OpenLaw} {w : World} {K : PySem.W.Frag} {h : Heap} {mg : Str → Option Value} {fa : Addr} (X : K.In h) (G : h.Ns mainGlobals mg) (hfa : mg "law" = some (.ref fa))
    {f0 : Addr} {od0 an0 : Option Addr} {sl0 : Array (Option Value)} {oc0 kV0 dc0 pm0 cd0 ct0 : Value}
    {f1 : Addr} {od1 an1 : Option Addr} {sl1 : Array (Option Value)} {oc1 kV1 dc1 pm1 cd1 ct1 : Value}
    {f2 : Addr} {od2 an2 : Option Addr} {sl2 : Array (Option Value)} {oc2 kV2 dc2 pm2 cd2 ct2 : Value}
    {f3 : Addr} {od3 an3 : Option Addr} {sl3 : Array (Option Value)} {oc3 kV3 dc3 pm3 cd3 ct3 : Value}
    {f4 : Addr} {od4 an4 : Option Addr} {sl4 : Array (Option Value)} {oc4 kV4 dc4 pm4 cd4 ct4 : Value}
    {f5 : Addr} {od5 an5 : Option Addr} {sl5 : Array (Option Value)} {oc5 kV5 dc5 pm5 cd5 ct5 : Value}
    {f6 : Addr} {od6 an6 : Option Addr} {sl6 : Array (Option Value)} {oc6 kV6 dc6 pm6 cd6 ct6 : Value}
    {f7 : Addr} {od7 an7 : Option Addr} {sl7 : Array (Option Value)} {oc7 kV7 dc7 pm7 cd7 ct7 : Value}
    {f8 : Addr} {od8 an8 : Option Addr} {sl8 : Array (Option Value)} {oc8 kV8 dc8 pm8 cd8 ct8 : Value}
    {f9 : Addr} {od9 an9 : Option Addr} {sl9 : Array (Option Value)} {oc9 kV9 dc9 pm9 cd9 ct9 : Value}
    {f10 : Addr} {od10 an10 : Option Addr} {sl10 : Array (Option Value)} {oc10 kV10 dc10 pm10 cd10 ct10 : Value}
    {f11 : Addr} {od11 an11 : Option Addr} {sl11 : Array (Option Value)} {oc11 kV11 dc11 pm11 cd11 ct11 : Value}
    {f12 : Addr} {od12 an12 : Option Addr} {sl12 : Array (Option Value)} {oc12 kV12 dc12 pm12 cd12 ct12 : Value}
    {f13 : Addr} {od13 an13 : Option Addr} {sl13 : Array (Option Value)} {oc13 kV13 dc13 pm13 cd13 ct13 : Value}
    {f14 : Addr} {od14 an14 : Option Addr} {sl14 : Array (Option Value)} {oc14 kV14 dc14 pm14 cd14 ct14 : Value}
    {f15 : Addr} {od15 an15 : Option Addr} {sl15 : Array (Option Value)} {oc15 kV15 dc15 pm15 cd15 ct15 : Value}
    {f16 : Addr} {od16 an16 : Option Addr} {sl16 : Array (Option Value)} {oc16 kV16 dc16 pm16 cd16 ct16 : Value}
    {f17 : Addr} {od17 an17 : Option Addr} {sl17 : Array (Option Value)} {oc17 kV17 dc17 pm17 cd17 ct17 : Value}
    {f18 : Addr} {od18 an18 : Option Addr} {sl18 : Array (Option Value)} {oc18 kV18 dc18 pm18 cd18 ct18 : Value}
    {f19 : Addr} {od19 an19 : Option Addr} {sl19 : Array (Option Value)} {oc19 kV19 dc19 pm19 cd19 ct19 : Value}
    {f20 : Addr} {od20 an20 : Option Addr} {sl20 : Array (Option Value)} {oc20 kV20 dc20 pm20 cd20 ct20 : Value}
    {f21 : Addr} {od21 an21 : Option Addr} {sl21 : Array (Option Value)} {oc21 kV21 dc21 pm21 cd21 ct21 : Value}
    {f22 : Addr} {od22 an22 : Option Addr} {sl22 : Array (Option Value)} {oc22 kV22 dc22 pm22 cd22 ct22 : Value}
    {f23 : Addr} {od23 an23 : Option Addr} {sl23 : Array (Option Value)} {oc23 kV23 dc23 pm23 cd23 ct23 : Value}
    {f24 : Addr} {od24 an24 : Option Addr} {sl24 : Array (Option Value)} {oc24 kV24 dc24 pm24 cd24 ct24 : Value}
    {f25 : Addr} {od25 an25 : Option Addr} {sl25 : Array (Option Value)} {oc25 kV25 dc25 pm25 cd25 ct25 : Value}
    {f26 : Addr} {od26 an26 : Option Addr} {sl26 : Array (Option Value)} {oc26 kV26 dc26 pm26 cd26 ct26 : Value}
    {f27 : Addr} {od27 an27 : Option Addr} {sl27 : Array (Option Value)} {oc27 kV27 dc27 pm27 cd27 ct27 : Value}
    {f28 : Addr} {od28 an28 : Option Addr} {sl28 : Array (Option Value)} {oc28 kV28 dc28 pm28 cd28 ct28 : Value}
    {cc_come_again P_come_again : Addr} {ev15 : Value} {dv15 : Option Addr} {vv15 : Array Value} {sv15 : Array (Option Value)}
    {t_LEAST_MANY : Tok}
    {t_MOST_MANY : Tok}
    {t_MOST_ROOMS : Tok}
    {t_MOST_UNLIKE : Tok}
    (a0 : PySem.W.nsIn K mainGlobals "is_whole" = some (some (.ref f0))) (l0 : K.lookup f0 = some ⟨oc0, od0, .func (PySem.W.fnOf "is_whole" "is_whole" (defArgs s_is_whole) (defBody s_is_whole) (defScope s_is_whole) .none kV0 dc0 pm0 an0 cd0 ct0), sl0⟩) (c0 : PySem.W.codeIn K cd0 "is_whole" = true) (k0 : PySem.W.keepIn K (.ref f0) = true)
    (a1 : PySem.W.nsIn K mainGlobals "is_between" = some (some (.ref f1))) (l1 : K.lookup f1 = some ⟨oc1, od1, .func (PySem.W.fnOf "is_between" "is_between" (defArgs s_is_between) (defBody s_is_between) (defScope s_is_between) .none kV1 dc1 pm1 an1 cd1 ct1), sl1⟩) (c1 : PySem.W.codeIn K cd1 "is_between" = true) (k1 : PySem.W.keepIn K (.ref f1) = true)
    (a2 : PySem.W.nsIn K mainGlobals "is_turn" = some (some (.ref f2))) (l2 : K.lookup f2 = some ⟨oc2, od2, .func (PySem.W.fnOf "is_turn" "is_turn" (defArgs s_is_turn) (defBody s_is_turn) (defScope s_is_turn) .none kV2 dc2 pm2 an2 cd2 ct2), sl2⟩) (c2 : PySem.W.codeIn K cd2 "is_turn" = true) (k2 : PySem.W.keepIn K (.ref f2) = true)
    (a3 : PySem.W.nsIn K mainGlobals "is_below" = some (some (.ref f3))) (l3 : K.lookup f3 = some ⟨oc3, od3, .func (PySem.W.fnOf "is_below" "is_below" (defArgs s_is_below) (defBody s_is_below) (defScope s_is_below) .none kV3 dc3 pm3 an3 cd3 ct3), sl3⟩) (c3 : PySem.W.codeIn K cd3 "is_below" = true) (k3 : PySem.W.keepIn K (.ref f3) = true)
    (a4 : PySem.W.nsIn K mainGlobals "is_room" = some (some (.ref f4))) (l4 : K.lookup f4 = some ⟨oc4, od4, .func (PySem.W.fnOf "is_room" "is_room" (defArgs s_is_room) (defBody s_is_room) (defScope s_is_room) .none kV4 dc4 pm4 an4 cd4 ct4), sl4⟩) (c4 : PySem.W.codeIn K cd4 "is_room" = true) (k4 : PySem.W.keepIn K (.ref f4) = true)
    (a5 : PySem.W.nsIn K mainGlobals "is_machine" = some (some (.ref f5))) (l5 : K.lookup f5 = some ⟨oc5, od5, .func (PySem.W.fnOf "is_machine" "is_machine" (defArgs s_is_machine) (defBody s_is_machine) (defScope s_is_machine) .none kV5 dc5 pm5 an5 cd5 ct5), sl5⟩) (c5 : PySem.W.codeIn K cd5 "is_machine" = true) (k5 : PySem.W.keepIn K (.ref f5) = true)
    (a6 : PySem.W.nsIn K mainGlobals "sure_machine" = some (some (.ref f6))) (l6 : K.lookup f6 = some ⟨oc6, od6, .func (PySem.W.fnOf "sure_machine" "sure_machine" (defArgs s_sure_machine) (defBody s_sure_machine) (defScope s_sure_machine) .none kV6 dc6 pm6 an6 cd6 ct6), sl6⟩) (c6 : PySem.W.codeIn K cd6 "sure_machine" = true) (k6 : PySem.W.keepIn K (.ref f6) = true)
    (a7 : PySem.W.nsIn K mainGlobals "numbered" = some (some (.ref f7))) (l7 : K.lookup f7 = some ⟨oc7, od7, .func (PySem.W.fnOf "numbered" "numbered" (defArgs s_numbered) (defBody s_numbered) (defScope s_numbered) .none kV7 dc7 pm7 an7 cd7 ct7), sl7⟩) (c7 : PySem.W.codeIn K cd7 "numbered" = true) (k7 : PySem.W.keepIn K (.ref f7) = true)
    (a8 : PySem.W.nsIn K mainGlobals "room_marks" = some (some (.ref f8))) (l8 : K.lookup f8 = some ⟨oc8, od8, .func (PySem.W.fnOf "room_marks" "room_marks" (defArgs s_room_marks) (defBody s_room_marks) (defScope s_room_marks) .none kV8 dc8 pm8 an8 cd8 ct8), sl8⟩) (c8 : PySem.W.codeIn K cd8 "room_marks" = true) (k8 : PySem.W.keepIn K (.ref f8) = true)
    (a9 : PySem.W.nsIn K mainGlobals "least_from" = some (some (.ref f9))) (l9 : K.lookup f9 = some ⟨oc9, od9, .func (PySem.W.fnOf "least_from" "least_from" (defArgs s_least_from) (defBody s_least_from) (defScope s_least_from) .none kV9 dc9 pm9 an9 cd9 ct9), sl9⟩) (c9 : PySem.W.codeIn K cd9 "least_from" = true) (k9 : PySem.W.keepIn K (.ref f9) = true)
    (a10 : PySem.W.nsIn K mainGlobals "least" = some (some (.ref f10))) (l10 : K.lookup f10 = some ⟨oc10, od10, .func (PySem.W.fnOf "least" "least" (defArgs s_least) (defBody s_least) (defScope s_least) .none kV10 dc10 pm10 an10 cd10 ct10), sl10⟩) (c10 : PySem.W.codeIn K cd10 "least" = true) (k10 : PySem.W.keepIn K (.ref f10) = true)
    (a11 : PySem.W.nsIn K mainGlobals "begun_in" = some (some (.ref f11))) (l11 : K.lookup f11 = some ⟨oc11, od11, .func (PySem.W.fnOf "begun_in" "begun_in" (defArgs s_begun_in) (defBody s_begun_in) (defScope s_begun_in) .none kV11 dc11 pm11 an11 cd11 ct11), sl11⟩) (c11 : PySem.W.codeIn K cd11 "begun_in" = true) (k11 : PySem.W.keepIn K (.ref f11) = true)
    (a12 : PySem.W.nsIn K mainGlobals "begun" = some (some (.ref f12))) (l12 : K.lookup f12 = some ⟨oc12, od12, .func (PySem.W.fnOf "begun" "begun" (defArgs s_begun) (defBody s_begun) (defScope s_begun) .none kV12 dc12 pm12 an12 cd12 ct12), sl12⟩) (c12 : PySem.W.codeIn K cd12 "begun" = true) (k12 : PySem.W.keepIn K (.ref f12) = true)
    (a13 : PySem.W.nsIn K mainGlobals "unlike" = some (some (.ref f13))) (l13 : K.lookup f13 = some ⟨oc13, od13, .func (PySem.W.fnOf "unlike" "unlike" (defArgs s_unlike) (defBody s_unlike) (defScope s_unlike) .none kV13 dc13 pm13 an13 cd13 ct13), sl13⟩) (c13 : PySem.W.codeIn K cd13 "unlike" = true) (k13 : PySem.W.keepIn K (.ref f13) = true)
    (a14 : PySem.W.nsIn K mainGlobals "led_to" = some (some (.ref f14))) (l14 : K.lookup f14 = some ⟨oc14, od14, .func (PySem.W.fnOf "led_to" "led_to" (defArgs s_led_to) (defBody s_led_to) (defScope s_led_to) .none kV14 dc14 pm14 an14 cd14 ct14), sl14⟩) (c14 : PySem.W.codeIn K cd14 "led_to" = true) (k14 : PySem.W.keepIn K (.ref f14) = true)
    (a15 : PySem.W.nsIn K mainGlobals "come_again" = some (some (.ref f15))) (l15 : K.lookup f15 = some ⟨oc15, od15, .func (PySem.W.fnOf "come_again" "come_again" (defArgs s_come_again) (defBody s_come_again) (defScope s_come_again) .none kV15 dc15 pm15 an15 cd15 ct15), sl15⟩) (c15 : PySem.W.codeIn K cd15 "come_again" = true) (k15 : PySem.W.keepIn K (.ref f15) = true)
    (a16 : PySem.W.nsIn K mainGlobals "again" = some (some (.ref f16))) (l16 : K.lookup f16 = some ⟨oc16, od16, .func (PySem.W.fnOf "again" "again" (defArgs s_again) (defBody s_again) (defScope s_again) .none kV16 dc16 pm16 an16 cd16 ct16), sl16⟩) (c16 : PySem.W.codeIn K cd16 "again" = true) (k16 : PySem.W.keepIn K (.ref f16) = true)
    (a17 : PySem.W.nsIn K mainGlobals "_law_state" = some (some (.ref f17))) (l17 : K.lookup f17 = some ⟨oc17, od17, .func (PySem.W.fnOf "_law_state" "_law_state" (defArgs s_law_state) (defBody s_law_state) (defScope s_law_state) .none kV17 dc17 pm17 an17 cd17 ct17), sl17⟩) (c17 : PySem.W.codeIn K cd17 "_law_state" = true) (k17 : PySem.W.keepIn K (.ref f17) = true)
    (a18 : PySem.W.nsIn K mainGlobals "_law_next" = some (some (.ref f18))) (l18 : K.lookup f18 = some ⟨oc18, od18, .func (PySem.W.fnOf "_law_next" "_law_next" (defArgs s_law_next) (defBody s_law_next) (defScope s_law_next) .none kV18 dc18 pm18 an18 cd18 ct18), sl18⟩) (c18 : PySem.W.codeIn K cd18 "_law_next" = true) (k18 : PySem.W.keepIn K (.ref f18) = true)
    (a19 : PySem.W.nsIn K mainGlobals "_law_turn" = some (some (.ref f19))) (l19 : K.lookup f19 = some ⟨oc19, od19, .func (PySem.W.fnOf "_law_turn" "_law_turn" (defArgs s_law_turn) (defBody s_law_turn) (defScope s_law_turn) .none kV19 dc19 pm19 an19 cd19 ct19), sl19⟩) (c19 : PySem.W.codeIn K cd19 "_law_turn" = true) (k19 : PySem.W.keepIn K (.ref f19) = true)
    (a20 : PySem.W.nsIn K mainGlobals "_law_machine" = some (some (.ref f20))) (l20 : K.lookup f20 = some ⟨oc20, od20, .func (PySem.W.fnOf "_law_machine" "_law_machine" (defArgs s_law_machine) (defBody s_law_machine) (defScope s_law_machine) .none kV20 dc20 pm20 an20 cd20 ct20), sl20⟩) (c20 : PySem.W.codeIn K cd20 "_law_machine" = true) (k20 : PySem.W.keepIn K (.ref f20) = true)
    (a21 : PySem.W.nsIn K mainGlobals "_law_come" = some (some (.ref f21))) (l21 : K.lookup f21 = some ⟨oc21, od21, .func (PySem.W.fnOf "_law_come" "_law_come" (defArgs s_law_come) (defBody s_law_come) (defScope s_law_come) .none kV21 dc21 pm21 an21 cd21 ct21), sl21⟩) (c21 : PySem.W.codeIn K cd21 "_law_come" = true) (k21 : PySem.W.keepIn K (.ref f21) = true)
    (a22 : PySem.W.nsIn K mainGlobals "_law_numbered" = some (some (.ref f22))) (l22 : K.lookup f22 = some ⟨oc22, od22, .func (PySem.W.fnOf "_law_numbered" "_law_numbered" (defArgs s_law_numbered) (defBody s_law_numbered) (defScope s_law_numbered) .none kV22 dc22 pm22 an22 cd22 ct22), sl22⟩) (c22 : PySem.W.codeIn K cd22 "_law_numbered" = true) (k22 : PySem.W.keepIn K (.ref f22) = true)
    (a23 : PySem.W.nsIn K mainGlobals "_law_least" = some (some (.ref f23))) (l23 : K.lookup f23 = some ⟨oc23, od23, .func (PySem.W.fnOf "_law_least" "_law_least" (defArgs s_law_least) (defBody s_law_least) (defScope s_law_least) .none kV23 dc23 pm23 an23 cd23 ct23), sl23⟩) (c23 : PySem.W.codeIn K cd23 "_law_least" = true) (k23 : PySem.W.keepIn K (.ref f23) = true)
    (a24 : PySem.W.nsIn K mainGlobals "_law_arrows" = some (some (.ref f24))) (l24 : K.lookup f24 = some ⟨oc24, od24, .func (PySem.W.fnOf "_law_arrows" "_law_arrows" (defArgs s_law_arrows) (defBody s_law_arrows) (defScope s_law_arrows) .none kV24 dc24 pm24 an24 cd24 ct24), sl24⟩) (c24 : PySem.W.codeIn K cd24 "_law_arrows" = true) (k24 : PySem.W.keepIn K (.ref f24) = true)
    (a25 : PySem.W.nsIn K mainGlobals "_law_led" = some (some (.ref f25))) (l25 : K.lookup f25 = some ⟨oc25, od25, .func (PySem.W.fnOf "_law_led" "_law_led" (defArgs s_law_led) (defBody s_law_led) (defScope s_law_led) .none kV25 dc25 pm25 an25 cd25 ct25), sl25⟩) (c25 : PySem.W.codeIn K cd25 "_law_led" = true) (k25 : PySem.W.keepIn K (.ref f25) = true)
    (a26 : PySem.W.nsIn K mainGlobals "_law_due" = some (some (.ref f26))) (l26 : K.lookup f26 = some ⟨oc26, od26, .func (PySem.W.fnOf "_law_due" "_law_due" (defArgs s_law_due) (defBody s_law_due) (defScope s_law_due) .none kV26 dc26 pm26 an26 cd26 ct26), sl26⟩) (c26 : PySem.W.codeIn K cd26 "_law_due" = true) (k26 : PySem.W.keepIn K (.ref f26) = true)
    (a27 : PySem.W.nsIn K mainGlobals "_law_formed" = some (some (.ref f27))) (l27 : K.lookup f27 = some ⟨oc27, od27, .func (PySem.W.fnOf "_law_formed" "_law_formed" (defArgs s_law_formed) (defBody s_law_formed) (defScope s_law_formed) .none kV27 dc27 pm27 an27 cd27 ct27), sl27⟩) (c27 : PySem.W.codeIn K cd27 "_law_formed" = true) (k27 : PySem.W.keepIn K (.ref f27) = true)
    (a28 : PySem.W.nsIn K mainGlobals "law" = some (some (.ref f28))) (l28 : K.lookup f28 = some ⟨oc28, od28, .func (PySem.W.fnOf "law" "law" (defArgs s_law) (defBody s_law) (defScope s_law) .none kV28 dc28 pm28 an28 cd28 ct28), sl28⟩) (c28 : PySem.W.codeIn K cd28 "law" = true) (k28 : PySem.W.keepIn K (.ref f28) = true)
    (ce15 : cd15 = .ref cc_come_again) (lc15 : K.lookup cc_come_again = some ⟨ev15, dv15, .fields vv15, sv15⟩) (lp15 : vv15[11]? = some (.ref P_come_again)) (np15 : K.lookup P_come_again = none)
    (z_int : PySem.W.nsIn K mainGlobals "int" = some none)
    (z_isinstance : PySem.W.nsIn K mainGlobals "isinstance" = some none)
    (z_bool : PySem.W.nsIn K mainGlobals "bool" = some none)
    (z_tuple : PySem.W.nsIn K mainGlobals "tuple" = some none)
    (z_len : PySem.W.nsIn K mainGlobals "len" = some none)
    (z_all : PySem.W.nsIn K mainGlobals "all" = some none)
    (z_sorted : PySem.W.nsIn K mainGlobals "sorted" = some none)
    (z_list : PySem.W.nsIn K mainGlobals "list" = some none)
    (z_range : PySem.W.nsIn K mainGlobals "range" = some none)
    (z_max : PySem.W.nsIn K mainGlobals "max" = some none)
    (z_enumerate : PySem.W.nsIn K mainGlobals "enumerate" = some none)
    (z_abs : PySem.W.nsIn K mainGlobals "abs" = some none)
    (z_zip : PySem.W.nsIn K mainGlobals "zip" = some none)
    (z_min : PySem.W.nsIn K mainGlobals "min" = some none)
    (i_LEAST_MANY : PySem.W.nsIn K mainGlobals "LEAST_MANY" = some (some (.int 2 t_LEAST_MANY)))
    (i_MOST_MANY : PySem.W.nsIn K mainGlobals "MOST_MANY" = some (some (.int 4 t_MOST_MANY)))
    (i_MOST_ROOMS : PySem.W.nsIn K mainGlobals "MOST_ROOMS" = some (some (.int 60 t_MOST_ROOMS)))
    (i_MOST_UNLIKE : PySem.W.nsIn K mainGlobals "MOST_UNLIKE" = some (some (.int 60 t_MOST_UNLIKE))) (own : ∀ nm ∈ [("come_again" : Str)], OwnT K mg h nm) :
    ∃ (fd : FuncData) (T : List Tb), (T.map (·.2.1)).Nodup ∧ (∀ t ∈ T, h.get? t.2.1 = some emptyTab) ∧ (∀ t ∈ T, K.lookup t.2.1 = none) ∧ (∀ t ∈ T, PySem.W.CodeHd h t.1 t.2.1) ∧ (∀ (s : Shared) (v : Value), BindsTo s fd ⟨[v], []⟩ [("_law_script", v)]) ∧ ∀ base : Heap, K.In base → base.Ns mainGlobals mg → (∀ t ∈ T, TabB base mg t.1 t.2.1) → FnDG l.prog w K mg base 14 fa fd ["_law_script"] (spLawT 63 T) := by
  have e := hfa.symm.trans (PySem.W.mg_of X G a28)
  cases e
  have F0 := fun_mk (st := s_is_whole) l0 c0 k0
  have F1 := fun_mk (st := s_is_between) l1 c1 k1
  have F2 := fun_mk (st := s_is_turn) l2 c2 k2
  have F3 := fun_mk (st := s_is_below) l3 c3 k3
  have F4 := fun_mk (st := s_is_room) l4 c4 k4
  have F5 := fun_mk (st := s_is_machine) l5 c5 k5
  have F6 := fun_mk (st := s_sure_machine) l6 c6 k6
  have F7 := fun_mk (st := s_numbered) l7 c7 k7
  have F8 := fun_mk (st := s_room_marks) l8 c8 k8
  have F9 := fun_mk (st := s_least_from) l9 c9 k9
  have F10 := fun_mk (st := s_least) l10 c10 k10
  have F11 := fun_mk (st := s_begun_in) l11 c11 k11
  have F12 := fun_mk (st := s_begun) l12 c12 k12
  have F13 := fun_mk (st := s_unlike) l13 c13 k13
  have F14 := fun_mk (st := s_led_to) l14 c14 k14
  have F15 := fun_mk (st := s_come_again) l15 c15 k15
  have F16 := fun_mk (st := s_again) l16 c16 k16
  have F17 := fun_mk (st := s_law_state) l17 c17 k17
  have F18 := fun_mk (st := s_law_next) l18 c18 k18
  have F19 := fun_mk (st := s_law_turn) l19 c19 k19
  have F20 := fun_mk (st := s_law_machine) l20 c20 k20
  have F21 := fun_mk (st := s_law_come) l21 c21 k21
  have F22 := fun_mk (st := s_law_numbered) l22 c22 k22
  have F23 := fun_mk (st := s_law_least) l23 c23 k23
  have F24 := fun_mk (st := s_law_arrows) l24 c24 k24
  have F25 := fun_mk (st := s_law_led) l25 c25 k25
  have F26 := fun_mk (st := s_law_due) l26 c26 k26
  have F27 := fun_mk (st := s_law_formed) l27 c27 k27
  have F28 := fun_mk (st := s_law) l28 c28 k28
  have z_int := PySem.W.mg_none_of X G z_int
  have z_isinstance := PySem.W.mg_none_of X G z_isinstance
  have z_bool := PySem.W.mg_none_of X G z_bool
  have z_tuple := PySem.W.mg_none_of X G z_tuple
  have z_len := PySem.W.mg_none_of X G z_len
  have z_all := PySem.W.mg_none_of X G z_all
  have z_sorted := PySem.W.mg_none_of X G z_sorted
  have z_list := PySem.W.mg_none_of X G z_list
  have z_range := PySem.W.mg_none_of X G z_range
  have z_max := PySem.W.mg_none_of X G z_max
  have z_enumerate := PySem.W.mg_none_of X G z_enumerate
  have z_abs := PySem.W.mg_none_of X G z_abs
  have z_zip := PySem.W.mg_none_of X G z_zip
  have z_min := PySem.W.mg_none_of X G z_min
  have i_LEAST_MANY : GI mg "LEAST_MANY" 2 := ⟨_, PySem.W.mg_of X G i_LEAST_MANY⟩
  have i_MOST_MANY : GI mg "MOST_MANY" 4 := ⟨_, PySem.W.mg_of X G i_MOST_MANY⟩
  have i_MOST_ROOMS : GI mg "MOST_ROOMS" 60 := ⟨_, PySem.W.mg_of X G i_MOST_ROOMS⟩
  have i_MOST_UNLIKE : GI mg "MOST_UNLIKE" 60 := ⟨_, PySem.W.mg_of X G i_MOST_UNLIKE⟩
  have ow15 := own "come_again" (by simp) _ cc_come_again P_come_again _ _ _ _ _ _ (PySem.W.mg_of X G a15) l15 rfl ce15 lc15 lp15
  refine ⟨PySem.W.fnOf "law" "law" (defArgs s_law) (defBody s_law) (defScope s_law) .none kV28 dc28 pm28 an28 cd28 ct28, [(cc_come_again, P_come_again, lamQ "come_again")], (by simp), (all_cons ow15.1 (fun _ z => nomatch z)), (all_cons np15 (fun _ z => nomatch z)), (all_cons ow15.2 (fun _ z => nomatch z)), fun s v => .of_eq rfl, fun base _ _ TB => ?_⟩
  let d_is_whole := mk_is_whole (P := l.prog) (w := w) (base := base) F0 (PySem.W.mg_of X G a0) z_int z_isinstance z_bool
  let d_is_below := mk_is_below (P := l.prog) (w := w) (base := base) F3 (PySem.W.mg_of X G a3) z_int z_isinstance z_bool
  let d_numbered := mk_numbered (P := l.prog) (w := w) (base := base) F7 (PySem.W.mg_of X G a7) z_len
  let d_begun_in := mk_begun_in (P := l.prog) (w := w) (base := base) F11 (PySem.W.mg_of X G a11) z_len z_tuple
  let d_led_to := mk_led_to (P := l.prog) (w := w) (base := base) F14 (PySem.W.mg_of X G a14) z_list
  let d_law_state := mk_law_state (P := l.prog) (w := w) (base := base) F17 (PySem.W.mg_of X G a17) z_len z_abs
  let d_law_next := mk_law_next (P := l.prog) (w := w) (base := base) F18 (PySem.W.mg_of X G a18) 
  let d_law_come := mk_law_come (P := l.prog) (w := w) (base := base) F21 (PySem.W.mg_of X G a21) z_len
  let d_law_numbered := mk_law_numbered (P := l.prog) (w := w) (base := base) F22 (PySem.W.mg_of X G a22) z_zip
  let d_law_led := mk_law_led (P := l.prog) (w := w) (base := base) F25 (PySem.W.mg_of X G a25) z_list
  let d_law_formed := mk_law_formed (P := l.prog) (w := w) (base := base) F27 (PySem.W.mg_of X G a27) z_tuple z_isinstance z_int z_bool
  let d_is_between := mk_is_between (P := l.prog) (w := w) (base := base) F1 (PySem.W.mg_of X G a1) d_is_whole
  let d_room_marks := mk_room_marks (P := l.prog) (w := w) (base := base) F8 (PySem.W.mg_of X G a8) d_numbered z_max z_enumerate z_tuple
  let d_begun := mk_begun (P := l.prog) (w := w) (base := base) F12 (PySem.W.mg_of X G a12) d_begun_in
  let d_law_turn := mk_law_turn (P := l.prog) (w := w) (base := base) F19 (PySem.W.mg_of X G a19) z_list z_range d_law_next z_len z_tuple
  let d_law_least := mk_law_least (P := l.prog) (w := w) (base := base) F23 (PySem.W.mg_of X G a23) d_law_come d_law_numbered z_max z_range z_tuple
  let d_is_turn := mk_is_turn (P := l.prog) (w := w) (base := base) F2 (PySem.W.mg_of X G a2) z_tuple z_isinstance i_LEAST_MANY z_len i_MOST_MANY d_is_between z_all z_sorted z_list z_range
  let d_least_from := mk_least_from (P := l.prog) (w := w) (base := base) F9 (PySem.W.mg_of X G a9) d_room_marks z_len z_tuple
  let d_law_machine := mk_law_machine (P := l.prog) (w := w) (base := base) F20 (PySem.W.mg_of X G a20) d_law_next z_range d_law_turn z_max z_tuple
  let d_law_arrows := mk_law_arrows (P := l.prog) (w := w) (base := base) F24 (PySem.W.mg_of X G a24) d_law_come d_law_least
  let d_is_room := mk_is_room (P := l.prog) (w := w) (base := base) F4 (PySem.W.mg_of X G a4) z_tuple z_isinstance z_len d_is_turn d_is_below z_all
  let d_law_due := mk_law_due (P := l.prog) (w := w) (base := base) F26 (PySem.W.mg_of X G a26) d_law_arrows d_law_led z_len z_sorted
  let d_is_machine := mk_is_machine (P := l.prog) (w := w) (base := base) F5 (PySem.W.mg_of X G a5) z_tuple z_isinstance z_len i_MOST_ROOMS d_is_turn d_is_room z_all
  let d_sure_machine := mk_sure_machine (P := l.prog) (w := w) (base := base) F6 (PySem.W.mg_of X G a6) d_is_machine
  let d_least := mk_least (P := l.prog) (w := w) (base := base) F10 (PySem.W.mg_of X G a10) d_least_from d_sure_machine
  let d_unlike := mk_unlike (P := l.prog) (w := w) (base := base) F13 (PySem.W.mg_of X G a13) d_least z_len i_MOST_UNLIKE d_begun
  let d_come_again := mk_come_again (P := l.prog) (w := w) (base := base) F15 (PySem.W.mg_of X G a15) d_unlike d_led_to (TB (cc_come_again, P_come_again, lamQ "come_again") (by simp)) ce15 z_len z_sorted
  let d_again := mk_again (P := l.prog) (w := w) (base := base) F16 (PySem.W.mg_of X G a16) z_tuple z_list z_isinstance z_len d_is_machine z_all d_come_again
  exact (mk_law (P := l.prog) (w := w) (base := base) F28 (PySem.W.mg_of X G a28) z_len z_min z_max z_range d_law_state d_law_next d_law_machine d_law_least d_law_due z_tuple z_list d_again z_isinstance d_law_formed).ok
end
end L2.Lh
open PySem PySem.W PyProof.Rows
set_option maxHeartbeats 0 in
theorem PySem.Challenge.cw_letterhand_k58_what_comes_again_holds : PySem.Challenge.rw_letterhand_k58_what_comes_again.Holds := by
  w_on; o_law; k_head; (case hw => w_witness2)
  k_fill
  refine L2.Lh.walkGT (l := PySem.Challenge.rw_letterhand_k58_what_comes_again) (n := 63) (k := 14) (x := "_law_script") [("come_again" : Str)] rfl (by decide) rfl ⟨rfl, by decide, by decide⟩ (by decide +kernel) (by first | exact fun w h Y => PySem.W.km_in_of Y | exact fun w h Y => PySem.W.kIn_of Y) ?F
  case F =>
    intro w mg fa h KX G hmg own
    refine' L2.Lh.all_mk KX G hmg ?a0 ?l0 ?c0 ?k0 ?a1 ?l1 ?c1 ?k1 ?a2 ?l2 ?c2 ?k2 ?a3 ?l3 ?c3 ?k3 ?a4 ?l4 ?c4 ?k4 ?a5 ?l5 ?c5 ?k5 ?a6 ?l6 ?c6 ?k6 ?a7 ?l7 ?c7 ?k7 ?a8 ?l8 ?c8 ?k8 ?a9 ?l9 ?c9 ?k9 ?a10 ?l10 ?c10 ?k10 ?a11 ?l11 ?c11 ?k11 ?a12 ?l12 ?c12 ?k12 ?a13 ?l13 ?c13 ?k13 ?a14 ?l14 ?c14 ?k14 ?a15 ?l15 ?c15 ?k15 ?a16 ?l16 ?c16 ?k16 ?a17 ?l17 ?c17 ?k17 ?a18 ?l18 ?c18 ?k18 ?a19 ?l19 ?c19 ?k19 ?a20 ?l20 ?c20 ?k20 ?a21 ?l21 ?c21 ?k21 ?a22 ?l22 ?c22 ?k22 ?a23 ?l23 ?c23 ?k23 ?a24 ?l24 ?c24 ?k24 ?a25 ?l25 ?c25 ?k25 ?a26 ?l26 ?c26 ?k26 ?a27 ?l27 ?c27 ?k27 ?a28 ?l28 ?c28 ?k28 ?ce15 ?lc15 ?lp15 ?np15 ?z_int ?z_isinstance ?z_bool ?z_tuple ?z_len ?z_all ?z_sorted ?z_list ?z_range ?z_max ?z_enumerate ?z_abs ?z_zip ?z_min ?i_LEAST_MANY ?i_MOST_MANY ?i_MOST_ROOMS ?i_MOST_UNLIKE own
    (case a0 => k_is); (case l0 => k_is); (case c0 => k_is); (case k0 => k_is); (case a1 => k_is); (case l1 => k_is); (case c1 => k_is); (case k1 => k_is); (case a2 => k_is); (case l2 => k_is); (case c2 => k_is); (case k2 => k_is); (case a3 => k_is); (case l3 => k_is); (case c3 => k_is); (case k3 => k_is); (case a4 => k_is); (case l4 => k_is); (case c4 => k_is); (case k4 => k_is); (case a5 => k_is); (case l5 => k_is); (case c5 => k_is); (case k5 => k_is); (case a6 => k_is); (case l6 => k_is); (case c6 => k_is); (case k6 => k_is); (case a7 => k_is); (case l7 => k_is); (case c7 => k_is); (case k7 => k_is); (case a8 => k_is); (case l8 => k_is); (case c8 => k_is); (case k8 => k_is); (case a9 => k_is); (case l9 => k_is); (case c9 => k_is); (case k9 => k_is); (case a10 => k_is); (case l10 => k_is); (case c10 => k_is); (case k10 => k_is); (case a11 => k_is); (case l11 => k_is); (case c11 => k_is); (case k11 => k_is); (case a12 => k_is); (case l12 => k_is); (case c12 => k_is); (case k12 => k_is); (case a13 => k_is); (case l13 => k_is); (case c13 => k_is); (case k13 => k_is); (case a14 => k_is); (case l14 => k_is); (case c14 => k_is); (case k14 => k_is); (case a15 => k_is); (case l15 => k_is); (case c15 => k_is); (case k15 => k_is); (case a16 => k_is); (case l16 => k_is); (case c16 => k_is); (case k16 => k_is); (case a17 => k_is); (case l17 => k_is); (case c17 => k_is); (case k17 => k_is); (case a18 => k_is); (case l18 => k_is); (case c18 => k_is); (case k18 => k_is); (case a19 => k_is); (case l19 => k_is); (case c19 => k_is); (case k19 => k_is); (case a20 => k_is); (case l20 => k_is); (case c20 => k_is); (case k20 => k_is); (case a21 => k_is); (case l21 => k_is); (case c21 => k_is); (case k21 => k_is); (case a22 => k_is); (case l22 => k_is); (case c22 => k_is); (case k22 => k_is); (case a23 => k_is); (case l23 => k_is); (case c23 => k_is); (case k23 => k_is); (case a24 => k_is); (case l24 => k_is); (case c24 => k_is); (case k24 => k_is); (case a25 => k_is); (case l25 => k_is); (case c25 => k_is); (case k25 => k_is); (case a26 => k_is); (case l26 => k_is); (case c26 => k_is); (case k26 => k_is); (case a27 => k_is); (case l27 => k_is); (case c27 => k_is); (case k27 => k_is); (case a28 => k_is); (case l28 => k_is); (case c28 => k_is); (case k28 => k_is); (case ce15 => rfl); (case lc15 => k_is); (case lp15 => rfl); (case np15 => kernel_rfl); (case z_int => k_is); (case z_isinstance => k_is); (case z_bool => k_is); (case z_tuple => k_is); (case z_len => k_is); (case z_all => k_is); (case z_sorted => k_is); (case z_list => k_is); (case z_range => k_is); (case z_max => k_is); (case z_enumerate => k_is); (case z_abs => k_is); (case z_zip => k_is); (case z_min => k_is); (case i_LEAST_MANY => k_is); (case i_MOST_MANY => k_is); (case i_MOST_ROOMS => k_is); (case i_MOST_UNLIKE => k_is)
