import PyProof.Rows.All
import Wide.All
import OpenK.AllK
import Wide.FinOn
import HandS.ForMost
import HandS.ForExc
import HandS.TupAny
import HandS.Flow
import HandS.IsInst
import HandS.Wide
import HandS.Deep
import HandS.CallSlots
import HandS.More
import KE.KDictKeyed
import HandS.SetBool
import HandS.WideBits
import KE.KExcInit
import HandS.ExcInit
import HandS.ExcField
import HandS.ExcIs
import KE.KExcIs
import HandS.Set
import HandS.SetFor
import HandS.Strs
import HandS.DeepEq
import KE.KEqDict
import KE.SortCalls
import HandS.TupSets
import KE.KeyNested
import HandS.StrMore
import HandS.Style
import HandS.RaiseMore
import PyProof.StrOps2
import HandS.ListItems
import HandS.DictTup
import HandS.OwnEq
import HandS.Zip
import HandS.Codes
import HandS.Zip0
import PyProof.EnumMake
import PyProof.Draws
import HandS.TupMul
import HandS.DictComp
import HandS.Conv
import HandS.RevRange
import KE.KRevSl
import HandS.TupLe
import HandS.Defaults
import HandS.MakeKwOnly
import PyProof.InstNe
import PyProof.NeKinds
import PyProof.Rows.ReprR
import KE.KCallOwn
import KE.KUnpack
import KE.SortKeyHeap
import HandS.CallLocal
import HandS.Replace
import HandS.ReplaceList
import PyProof.StrReplace2
import PyProof.ToksMono
import OpenK.KOwn
import PySem.Challenge.RW_middlesay_k05_sayings_as_texts
set_option Elab.async false
set_option linter.all false
set_option maxRecDepth 100000
namespace DL
open PySem PySem.Spec L2
inductive U where
  | non | bl (b : Bool) | int (i : Int) | str (x : Str)
  | tup (us : List U) | lst (us : List U) | frz (us : List U)
  | dic (ks : List Key) (us : List U)
  | loc (n : Nat)
  | ty (n : String)
  | exc (cls fld : Str) (arg : U)
  | cl (c : Str)
inductive Ob where
  | lst (us : List U) | dic (ks : List Key) (us : List U) | ins (c : Str) (fs : List (Str × U)) | kd (ks us : List U) | bd (ks : List Bool) (us : List U) | dead
abbrev Sto := List Ob
mutual
def keyN : U → Option NestedKey
  | .non => some .none
  | .bl b => some (.num (if b = true then 1 else 0))
  | .int i => some (.num i)
  | .str x => some (.text x)
  | .tup us => (keyNs us).map .tup
  | _ => none
def keyNs : List U → Option (List NestedKey)
  | [] => some []
  | u :: us => match keyN u, keyNs us with
    | some k, some ks => some (k :: ks)
    | _, _ => none
end
def keyT (u : U) : Option NestedKey := match keyN u with
  | some (.tup ks) => if (NestedKey.tup ks).depth ≤ 8 then some (.tup ks) else none
  | _ => none
def KdH (P : Program) (w : World) (a : Addr) (L : List (NestedKey × Addr × V)) (h : Heap) : Prop :=
  (a == sysModules) = false ∧ L.length ≤ sizeLine ∧ ∃ (o : Obj) (es : Array DictEntry) (ep : Nat) (xs : List (NestedKey × Addr × Value)), h.get? a = some o ∧ o.ExactDict ∧ o.data = .dict es ep ∧ es.toList = xs.map (entryOfKey (nestedKind P w)) ∧ (xs.map (·.1)).Nodup ∧
    L.map (fun x => (x.1, x.2.1)) = xs.map (fun x => (x.1, x.2.1)) ∧ Vals (L.map (·.2.2)) (xs.map (·.2.2))
def KdO (P : Program) (w : World) (a : Addr) (L : List (NestedKey × Addr × V)) : HO := .ext (KdH P w a L)
def BdH (P : Program) (w : World) (a : Addr) (kvs : List (Bool × V)) (h : Heap) : Prop :=
  kvs.length ≤ sizeLine ∧ (a == sysModules) = false ∧ ∃ vs : List (Bool × Value), KV kvs vs ∧ h.DictOf (PpSet.boolK P w) a vs
def BdO (P : Program) (w : World) (a : Addr) (kvs : List (Bool × V)) : HO := .ext (BdH P w a kvs)
structure Exc where
  cls : Str
  fld : Str
  arg : U
inductive R (α : Type) where
  | ok (a : α) (S : Sto) | exc (x : Exc) (S : Sto) | bad
abbrev En := List (Option U)
def R.bind {α β : Type} (r : R α) (k : α → Sto → R β) : R β := match r with
  | .ok a S => k a S
  | .exc x S => .exc x S
  | .bad => .bad
def Pst {α : Type} (r : R α) (P : α → Sto → Prop) (E : Exc → Sto → Prop) : Prop := match r with
  | .ok a S => P a S
  | .exc x S => E x S
  | .bad => False
theorem Pst.of_bind {α β : Type} {r : R α} {k : α → Sto → R β} {P : β → Sto → Prop} {E : Exc → Sto → Prop} (h : Pst (r.bind k) P E) : Pst r (fun a S => Pst (k a S) P E) E := by
  cases r <;> exact h
theorem Pst.mono {α : Type} {r : R α} {P P' : α → Sto → Prop} {E E' : Exc → Sto → Prop} (h : Pst r P E) (hp : ∀ a S, P a S → P' a S) (he : ∀ x S, E x S → E' x S) : Pst r P' E' := by
  cases r with
  | ok a S => exact hp _ _ h
  | exc x S => exact he _ _ h
  | bad => exact h
structure Wd where
  m : List Addr
  S : Sto
  H : Hp
  r : List Addr
def Wd.kept (w : Wd) (a : Addr) : Prop := ∃ (n : Nat) (o : Ob), w.m[n]? = some a ∧ w.S[n]? = some o ∧ o ≠ Ob.dead
def Wd.live (w : Wd) (a : Addr) : Prop := a ∈ w.r ∨ w.kept a
def FzL (K : PySem.W.Frag) (H : Hp) (a : Addr) (xs : List V) : Prop := (∃ o, H a = some (.frz o (.lst xs))) ∨
    ∃ (o : Obj) (its : Array Value) (n : Nat), K.lookup a = some o ∧ o.cls = .type "list" ∧ o.dict = none ∧ o.data = .seq its n ∧ its.size ≤ sizeLine ∧ Vals xs its.toList
theorem FzL.sq {K : PySem.W.Frag} {H : Hp} {a : Addr} {xs : List V} (h : FzL K H a xs) : SqL K H a xs := by
  rcases h with h | h
  · exact .inl (.inr h)
  · exact .inr h
def TqT (K : PySem.W.Frag) (H : Hp) (a : Addr) (xs : List V) : Prop := H a = some (.tup xs) ∨
    ∃ (o : Obj) (its : Array Value) (n : Nat), K.lookup a = some o ∧ o.cls = .type "tuple" ∧ o.data = .seq its n ∧ its.size ≤ sizeLine ∧ Vals xs its.toList
theorem TqT.sq {K : PySem.W.Frag} {H : Hp} {a : Addr} {xs : List V} (h : TqT K H a xs) : SqT K H a xs := by
  rcases h with h | h
  · exact .inl (.inl h)
  · exact .inr h
theorem TqT.of {K : PySem.W.Frag} {H : Hp} {a : Addr} {xs : List V} (h : H a = some (.tup xs)) : TqT K H a xs := .inl h
structure KM where
  K : PySem.W.Frag
  mg : Str → Option Value
  P : Program
  wd : World
instance : Coe KM PySem.W.Frag := ⟨KM.K⟩
def exv (a C d : Addr) : HO := .ext fun h => ∃ (oe : Obj) (vs : Array Value), h.get? a = some oe ∧ Zc (.ref C) (some d) oe ∧ oe.data = .fields vs
theorem exv_kd {a b C d : Addr} {P : Program} {w : World} {L : List (NestedKey × Addr × V)} (h : exv b C d = KdO P w a L) : False := by
  unfold exv KdO at h
  have e := congrFun (HO.ext.inj h) ⟨(List.replicate (a + b + 1) { cls := .ref C, dict := some d, data := .fields #[] }).toArray, {}⟩
  have g : ∀ c, c < a + b + 1 → (⟨(List.replicate (a + b + 1) { cls := .ref C, dict := some d, data := .fields #[] }).toArray, {}⟩ : Heap).get? c = some { cls := .ref C, dict := some d, data := .fields #[] } := fun c hc => by
    unfold Heap.get?
    simp [List.getElem?_replicate, hc]
  have l := e.mp ⟨_, #[], g b (Nat.lt_succ_of_le (Nat.le_add_left b a)), ⟨rfl, rfl⟩, rfl⟩
  obtain ⟨_, _, o, es, ep, xs, h1, h2, _⟩ := l
  rw [g a (Nat.lt_succ_of_le (Nat.le_add_right a b))] at h1
  cases h1
  exact nomatch h2.1
theorem exv_bd {a b C d : Addr} {P : Program} {w : World} {kvs : List (Bool × V)} (h : exv b C d = BdO P w a kvs) : False := by
  unfold exv BdO at h
  have e := congrFun (HO.ext.inj h) ⟨(List.replicate (a + b + 1) { cls := .ref C, dict := some d, data := .fields #[] }).toArray, {}⟩
  have g : ∀ c, c < a + b + 1 → (⟨(List.replicate (a + b + 1) { cls := .ref C, dict := some d, data := .fields #[] }).toArray, {}⟩ : Heap).get? c = some { cls := .ref C, dict := some d, data := .fields #[] } := fun c hc => by
    unfold Heap.get?
    simp [List.getElem?_replicate, hc]
  have l := e.mp ⟨_, #[], g b (Nat.lt_succ_of_le (Nat.le_add_left b a)), ⟨rfl, rfl⟩, rfl⟩
  obtain ⟨_, _, vs, _, o, es, ep, h1, h2, _⟩ := l
  rw [g a (Nat.lt_succ_of_le (Nat.le_add_right a b))] at h1
  cases h1
  exact nomatch h2.1
abbrev KMof (X : Cx) : KM := ⟨X.K, X.mg, X.prog, X.w⟩
mutual
inductive VR (K : KM) (w : Wd) : U → V → Prop
  | non : VR K w .non .non
  | bl (b : Bool) : VR K w (.bl b) (.bl b)
  | int (i : Int) : VR K w (.int i) (.int i)
  | str (x : Str) : VR K w (.str x) (.str x)
  | tup {a : Addr} {xs : List V} {us : List U} : TqT K w.H a xs → VRs K w us xs → VR K w (.tup us) (.ref a)
  | lst {a : Addr} {xs : List V} {us : List U} : w.H a = some (.lst xs) → ¬ w.live a → VRs K w us xs → VR K w (.lst us) (.ref a)
  | frz {a : Addr} {xs : List V} {us : List U} : FzL K w.H a xs → VRs K w us xs → VR K w (.frz us) (.ref a)
  | dic {a : Addr} {ks : List Key} {xs : List V} {us : List U} : w.H a = some (.dK (ks.zip xs)) → ¬ w.live a → ks.length = us.length → VRs K w us xs → VR K w (.dic ks us) (.ref a)
  | loc {n : Nat} {a : Addr} : w.m[n]? = some a → VR K w (.loc n) (.ref a)
  | ty (n : String) : VR K w (.ty n) (.ty n)
  | exc {a d C : Addr} {v : V} {c f : Str} {u : U} : w.H a = some (exv a C d) → w.H d = some (.xd [(f, v)]) → K.mg c = some (.ref C) → VR K w u v → VR K w (.exc c f u) (.ref a)
  | cl {C : Addr} {c : Str} : K.mg c = some (.ref C) → VR K w (.cl c) (.ref C)
inductive VRs (K : KM) (w : Wd) : List U → List V → Prop
  | nil : VRs K w [] []
  | cons {u : U} {us : List U} {v : V} {vs : List V} : VR K w u v → VRs K w us vs → VRs K w (u :: us) (v :: vs)
end
structure Ext (w w' : Wd) : Prop where
  m : ∃ l, w'.m = w.m ++ l
  keep : ∀ a o, w.H a = some o → ¬ w.live a → w'.H a = some o
  live : ∀ a, w'.live a → w.live a ∨ w.H a = none
theorem Ext.refl (w : Wd) : Ext w w := ⟨⟨[], (List.append_nil _).symm⟩, fun _ _ h _ => h, fun _ h => .inl h⟩
theorem Ext.trans {w w1 w2 : Wd} (a : Ext w w1) (b : Ext w1 w2) : Ext w w2 := by
  obtain ⟨l1, e1⟩ := a.m
  obtain ⟨l2, e2⟩ := b.m
  refine ⟨⟨l1 ++ l2, by rw [e2, e1, List.append_assoc]⟩, fun c o h n => ?_, fun c h => ?_⟩
  · refine b.keep c o (a.keep c o h n) fun q => ?_
    rcases a.live c q with z | z
    · exact n z
    · rw [h] at z; cases z
  · rcases b.live c h with z | z
    · exact a.live c z
    · cases q : w.H c with
      | none => exact .inr rfl
      | some o =>
        by_cases n : w.live c
        · exact .inl n
        · rw [a.keep c o q n] at z; cases z
def OR (K : KM) (w : Wd) : Ob → Addr → Prop
  | .lst us, a => ∃ xs, w.H a = some (.lst xs) ∧ VRs K w us xs
  | .dic ks us, a => ∃ xs, w.H a = some (.dK (ks.zip xs)) ∧ ks.length = us.length ∧ VRs K w us xs
  | .ins c fs, a => ∃ C dx xs, K.mg c = some (.ref C) ∧ w.H a = some (.ins C dx ((fs.map (·.1)).zip xs)) ∧ VRs K w (fs.map (·.2)) xs
  | .kd ks us, a => ∃ L : List (NestedKey × Addr × V), w.H a = some (KdO K.P K.wd a L) ∧ VRs K w ks (L.map fun x => V.ref x.2.1) ∧ ks.map keyT = L.map (fun x => some x.1) ∧ VRs K w us (L.map (·.2.2))
  | .bd ks us, a => ∃ xs, w.H a = some (BdO K.P K.wd a (ks.zip xs)) ∧ ks.length = us.length ∧ VRs K w us xs
  | .dead, _ => True
def MutO (o : HO) : Prop := (∃ xs, o = .lst xs) ∨ ∃ kvs, o = .dK kvs
def MutK (K : KM) (a : Addr) (o : HO) : Prop := MutO o ∨ (∃ C dx fs, o = .ins C dx fs) ∨ (∃ L, o = KdO K.P K.wd a L) ∨ ∃ kvs, o = BdO K.P K.wd a kvs
structure SR (K : KM) (w : Wd) : Prop where
  len : w.m.length = w.S.length
  inj : ∀ (i j : Nat) (a : Addr) (o o' : Ob), w.m[i]? = some a → w.m[j]? = some a → w.S[i]? = some o → w.S[j]? = some o' → o ≠ Ob.dead → o' ≠ .dead → i = j
  obj : ∀ (n : Nat) (a : Addr) (o : Ob), w.m[n]? = some a → w.S[n]? = some o → OR K w o a
  rk : ∀ a ∈ w.r, ∃ o, w.H a = some o ∧ MutK K a o
  rd : ∀ a ∈ w.r, ¬ w.kept a
section
variable {K : KM} {w w' : Wd}
theorem SR.kind (s : SR K w) {a : Addr} (h : w.live a) : (∃ xs, w.H a = some (.lst xs)) ∨ (∃ kvs, w.H a = some (.dK kvs)) ∨ (∃ C dx fs, w.H a = some (.ins C dx fs)) ∨ (∃ L, w.H a = some (KdO K.P K.wd a L)) ∨ ∃ kvs, w.H a = some (BdO K.P K.wd a kvs) := by
  rcases h with h | h
  · obtain ⟨o, e, m⟩ := s.rk a h
    rcases m with (⟨xs, q⟩ | ⟨xs, q⟩) | ⟨C, dx, fs, q⟩ | ⟨L, q⟩ | ⟨kvs, q⟩
    · exact .inl ⟨xs, by rw [← q]; exact e⟩
    · exact .inr (.inl ⟨xs, by rw [← q]; exact e⟩)
    · exact .inr (.inr (.inl ⟨C, dx, fs, by rw [← q]; exact e⟩))
    · exact .inr (.inr (.inr (.inl ⟨L, by rw [← q]; exact e⟩)))
    · exact .inr (.inr (.inr (.inr ⟨kvs, by rw [← q]; exact e⟩)))
  obtain ⟨n, o, h1, h2, h3⟩ := h
  have q := s.obj n a o h1 h2
  cases o with
  | lst us => obtain ⟨xs, e, _⟩ := q; exact .inl ⟨xs, e⟩
  | dic ks us => obtain ⟨xs, e, _⟩ := q; exact .inr (.inl ⟨_, e⟩)
  | ins c fs => obtain ⟨C, dx, xs, _, e, _⟩ := q; exact .inr (.inr (.inl ⟨_, _, _, e⟩))
  | kd ks us => obtain ⟨L, e, _⟩ := q; exact .inr (.inr (.inr (.inl ⟨L, e⟩)))
  | bd ks us => obtain ⟨L, e, _⟩ := q; exact .inr (.inr (.inr (.inr ⟨_, e⟩)))
  | dead => exact absurd rfl h3
theorem SR.notup (s : SR K w) {a : Addr} {xs : List V} (e : w.H a = some (.tup xs)) : ¬ w.live a := fun h => by
  rcases s.kind h with ⟨_, q⟩ | ⟨_, q⟩ | ⟨_, _, _, q⟩ | ⟨_, q⟩ | ⟨_, q⟩ <;> (rw [e] at q; cases q)
theorem SR.nofrz (s : SR K w) {a : Addr} {o : Obj} {u : HO} (e : w.H a = some (.frz o u)) : ¬ w.live a := fun h => by
  rcases s.kind h with ⟨_, q⟩ | ⟨_, q⟩ | ⟨_, _, _, q⟩ | ⟨_, q⟩ | ⟨_, q⟩ <;> (rw [e] at q; cases q)
theorem SR.noexv (s : SR K w) {a b C d : Addr} (e : w.H a = some (exv b C d)) : ¬ w.live a := fun h => by
  rcases s.kind h with ⟨_, q⟩ | ⟨_, q⟩ | ⟨_, _, _, q⟩ | ⟨L, q⟩ | ⟨L, q⟩
  · unfold exv at e; rw [e] at q; cases q
  · unfold exv at e; rw [e] at q; cases q
  · unfold exv at e; rw [e] at q; cases q
  · rw [e] at q
    exact exv_kd (Option.some.inj q)
  · rw [e] at q
    exact exv_bd (Option.some.inj q)
theorem SR.noxd (s : SR K w) {a : Addr} {fs : List (Str × V)} (e : w.H a = some (.xd fs)) : ¬ w.live a := fun h => by
  rcases s.kind h with ⟨_, q⟩ | ⟨_, q⟩ | ⟨_, _, _, q⟩ | ⟨_, q⟩ | ⟨_, q⟩ <;> (rw [e] at q; cases q)
theorem Ext.sqT (x : Ext w w') (s : SR K w) {a : Addr} {xs : List V} (h : TqT K w.H a xs) : TqT K w'.H a xs := by
  rcases h with h | h
  · exact .inl (x.keep _ _ h (s.notup h))
  · exact .inr h
theorem Ext.fz (x : Ext w w') (s : SR K w) {a : Addr} {xs : List V} (h : FzL K w.H a xs) : FzL K w'.H a xs := by
  rcases h with ⟨o, h⟩ | h
  · exact .inl ⟨o, x.keep _ _ h (s.nofrz h)⟩
  · exact .inr h
theorem Ext.dead (x : Ext w w') {a : Addr} {o : HO} (e : w.H a = some o) (n : ¬ w.live a) : ¬ w'.live a := fun h => by
  rcases x.live a h with z | z
  · exact n z
  · rw [e] at z; cases z
theorem Ext.at (x : Ext w w') {n : Nat} {a : Addr} (h : w.m[n]? = some a) : w'.m[n]? = some a := by
  obtain ⟨l, e⟩ := x.m
  rw [e]
  obtain ⟨hn, _⟩ := List.getElem?_eq_some_iff.mp h
  rw [List.getElem?_append_left hn]
  exact h
mutual
theorem VR.ext (x : Ext w w') (s : SR K w) : ∀ {u : U} {v : V}, VR K w u v → VR K w' u v
  | _, _, .non => .non
  | _, _, .bl b => .bl b
  | _, _, .int i => .int i
  | _, _, .str y => .str y
  | _, _, .tup h r => .tup (x.sqT s h) (VRs.ext x s r)
  | _, _, .lst h n r => .lst (x.keep _ _ h n) (x.dead h n) (VRs.ext x s r)
  | _, _, .frz h r => .frz (x.fz s h) (VRs.ext x s r)
  | _, _, .dic h n l r => .dic (x.keep _ _ h n) (x.dead h n) l (VRs.ext x s r)
  | _, _, .loc h => .loc (x.at h)
  | _, _, .ty n => .ty n
  | _, _, .exc h h2 c r => .exc (x.keep _ _ h (s.noexv h)) (x.keep _ _ h2 (s.noxd h2)) c (VR.ext x s r)
  | _, _, .cl h => .cl h
theorem VRs.ext (x : Ext w w') (s : SR K w) : ∀ {us : List U} {vs : List V}, VRs K w us vs → VRs K w' us vs
  | _, _, .nil => .nil
  | _, _, .cons h r => .cons (VR.ext x s h) (VRs.ext x s r)
end
theorem VRs.length : ∀ {us : List U} {vs : List V}, VRs K w us vs → us.length = vs.length
  | _, _, .nil => rfl
  | _, _, .cons _ r => by rw [List.length_cons, List.length_cons, VRs.length r]
theorem VRs.get : ∀ {us : List U} {vs : List V} {i : Nat} {u : U}, VRs K w us vs → us[i]? = some u → ∃ v, vs[i]? = some v ∧ VR K w u v
  | _, _, _, _, .nil, e => by simp at e
  | _, _, 0, _, .cons r _, e => by simp at e; subst e; exact ⟨_, rfl, r⟩
  | _, _, i + 1, u, .cons _ t, e => by
    obtain ⟨v, h1, h2⟩ := VRs.get (i := i) (u := u) t (by simpa using e)
    exact ⟨v, by simpa using h1, h2⟩
theorem VRs.append : ∀ {us us' : List U} {vs vs' : List V}, VRs K w us vs → VRs K w us' vs' → VRs K w (us ++ us') (vs ++ vs')
  | _, _, _, _, .nil, s => s
  | _, _, _, _, .cons r t, s => .cons r (VRs.append t s)
theorem VRs.take : ∀ {us : List U} {vs : List V} (n : Nat), VRs K w us vs → VRs K w (us.take n) (vs.take n)
  | _, _, 0, _ => by rw [List.take_zero, List.take_zero]; exact .nil
  | _, _, _ + 1, .nil => by rw [List.take_nil, List.take_nil]; exact .nil
  | _, _, n + 1, .cons r t => by rw [List.take_succ_cons, List.take_succ_cons]; exact .cons r (VRs.take n t)
theorem VRs.drop : ∀ {us : List U} {vs : List V} (n : Nat), VRs K w us vs → VRs K w (us.drop n) (vs.drop n)
  | _, _, 0, r => by rw [List.drop_zero, List.drop_zero]; exact r
  | _, _, _ + 1, .nil => by rw [List.drop_nil, List.drop_nil]; exact .nil
  | _, _, n + 1, .cons _ t => by rw [List.drop_succ_cons, List.drop_succ_cons]; exact VRs.drop n t
theorem VRs.set {u : U} {v : V} (r : VR K w u v) : ∀ {us : List U} {vs : List V} (i : Nat), VRs K w us vs → VRs K w (us.set i u) (vs.set i v)
  | _, _, _, .nil => by rw [List.set_nil, List.set_nil]; exact .nil
  | _, _, 0, .cons _ t => .cons r t
  | _, _, i + 1, .cons q t => .cons q (VRs.set r i t)
theorem VRs.snoc {us : List U} {vs : List V} {u : U} {v : V} (h : VRs K w us vs) (r : VR K w u v) : VRs K w (us ++ [u]) (vs ++ [v]) := h.append (.cons r .nil)
def Wd.new (w : Wd) (p : Addr) (o : HO) : Wd := ⟨w.m, w.S, upd w.H p o, w.r⟩
def Wd.push (w : Wd) (p : Addr) (o : HO) (b : Ob) : Wd := ⟨w.m ++ [p], w.S ++ [b], upd w.H p o, w.r⟩
def Wd.put (w : Wd) (n : Nat) (a : Addr) (o : HO) (b : Ob) : Wd := ⟨w.m, w.S.set n b, upd w.H a o, w.r⟩
def Wd.ice (w : Wd) (n : Nat) : Wd := ⟨w.m, w.S.set n .dead, w.H, w.r⟩
theorem SR.tracked (s : SR K w) {a : Addr} (h : w.live a) : w.H a ≠ none := fun e => by
  rcases s.kind h with ⟨_, q⟩ | ⟨_, q⟩ | ⟨_, _, _, q⟩ | ⟨_, q⟩ | ⟨_, q⟩ <;> (rw [e] at q; cases q)
theorem Ext.new (s : SR K w) {p : Addr} {o : HO} (hp : w.H p = none) : Ext w (w.new p o) :=
  ⟨⟨[], (List.append_nil _).symm⟩, fun a u h _ => by
    show upd w.H p o a = some u
    rw [upd_ne (ne_of_none h hp)]; exact h, fun _ h => .inl h⟩
theorem OR.ext (x : Ext w w') (s : SR K w) {o : Ob} {a : Addr} (h : OR K w o a) (e : w'.H a = w.H a) : OR K w' o a := by
  cases o with
  | lst us => obtain ⟨xs, q, r⟩ := h; exact ⟨xs, e.trans q, r.ext x s⟩
  | dic ks us => obtain ⟨xs, q, l, r⟩ := h; exact ⟨xs, e.trans q, l, r.ext x s⟩
  | ins c fs => obtain ⟨C, dx, xs, m, q, r⟩ := h; exact ⟨C, dx, xs, m, e.trans q, r.ext x s⟩
  | kd ks us => obtain ⟨L, q, r1, r2, r3⟩ := h; exact ⟨L, e.trans q, r1.ext x s, r2, r3.ext x s⟩
  | bd ks us => obtain ⟨xs, q, l, r⟩ := h; exact ⟨xs, e.trans q, l, r.ext x s⟩
  | dead => trivial
theorem SR.new (s : SR K w) {p : Addr} {o : HO} (hp : w.H p = none) : SR K (w.new p o) := by
  have x := Ext.new s (o := o) hp
  refine ⟨s.len, s.inj, fun n a b h1 h2 => ?_, fun a h => ?_, s.rd⟩
  · by_cases hb : b = .dead
    · subst hb; trivial
    · refine (s.obj n a b h1 h2).ext x s ?_
      show upd w.H p o a = w.H a
      rw [upd_ne fun e => ?_]
      subst e
      exact s.tracked (.inr ⟨n, b, h1, h2, hb⟩) hp
  · obtain ⟨xs, e, mo⟩ := s.rk a h
    exact ⟨xs, by show upd w.H p o a = _; rw [upd_ne (ne_of_none e hp)]; exact e, mo⟩
theorem get_snoc {α : Type} {l : List α} {x y : α} {n : Nat} (h : (l ++ [x])[n]? = some y) : l[n]? = some y ∨ (n = l.length ∧ y = x) := by
  by_cases hn : n < l.length
  · rw [List.getElem?_append_left hn] at h; exact .inl h
  · rw [List.getElem?_append_right (by omega)] at h
    have e : n - l.length = 0 := by
      cases q : n - l.length with
      | zero => rfl
      | succ k => rw [q] at h; simp at h
    rw [e] at h
    simp at h
    exact .inr ⟨by omega, h.symm⟩
theorem Wd.kept_push {p a : Addr} {o : HO} {b : Ob} (hl : w.m.length = w.S.length) (h : (w.push p o b).kept a) : w.kept a ∨ a = p := by
  obtain ⟨n, c, h1, h2, h3⟩ := h
  have h1 : (w.m ++ [p])[n]? = some a := h1
  have h2 : (w.S ++ [b])[n]? = some c := h2
  rcases get_snoc h1 with z | ⟨z, e⟩
  · rcases get_snoc h2 with y | ⟨y, _⟩
    · exact .inl ⟨n, c, z, y, h3⟩
    · have := (List.getElem?_eq_some_iff.mp z).1
      omega
  · exact .inr e
theorem Wd.live_push {p a : Addr} {o : HO} {b : Ob} (hl : w.m.length = w.S.length) (h : (w.push p o b).live a) : w.live a ∨ a = p := by
  rcases h with h | h
  · exact .inl (.inl h)
  · rcases Wd.kept_push hl h with z | z
    · exact .inl (.inr z)
    · exact .inr z
theorem Ext.push (s : SR K w) {p : Addr} {o : HO} {b : Ob} (hp : w.H p = none) : Ext w (w.push p o b) := by
  refine ⟨⟨[p], rfl⟩, fun a u h _ => ?_, fun a h => ?_⟩
  · show upd w.H p o a = some u
    rw [upd_ne (ne_of_none h hp)]; exact h
  · rcases Wd.live_push s.len h with z | z
    · exact .inl z
    · subst z; exact .inr hp
theorem SR.push (s : SR K w) {p : Addr} {o : HO} {b : Ob} (hp : w.H p = none) (hb : OR K (w.push p o b) b p) : SR K (w.push p o b) := by
  have x := Ext.push s (o := o) (b := b) hp
  have old : ∀ {n : Nat} {a : Addr} {c : Ob}, w.m[n]? = some a → w.S[n]? = some c → c ≠ Ob.dead → a ≠ p := fun {n a c} h1 h2 h3 e => by
    subst e
    exact s.tracked (.inr ⟨n, c, h1, h2, h3⟩) hp
  refine ⟨by show (w.m ++ [p]).length = (w.S ++ [b]).length; simp [s.len], fun i j a c c' h1 h2 h3 h4 d d' => ?_, fun n a c h1 h2 => ?_, fun a h => ?_, fun a h q => ?_⟩
  · have h1 : (w.m ++ [p])[i]? = some a := h1
    have h2 : (w.m ++ [p])[j]? = some a := h2
    have h3 : (w.S ++ [b])[i]? = some c := h3
    have h4 : (w.S ++ [b])[j]? = some c' := h4
    have hl := s.len
    rcases get_snoc h1 with z1 | ⟨z1, e1⟩ <;> rcases get_snoc h2 with z2 | ⟨z2, e2⟩ <;> rcases get_snoc h3 with z3 | ⟨z3, e3⟩ <;> rcases get_snoc h4 with z4 | ⟨z4, e4⟩
    all_goals first
      | omega
      | exact s.inj i j a c c' z1 z2 z3 z4 d d'
      | exact absurd e2 (old z1 z3 d)
      | exact absurd e1 (old z2 z4 d')
      | (have := (List.getElem?_eq_some_iff.mp z1).1; omega)
      | (have := (List.getElem?_eq_some_iff.mp z2).1; omega)
      | (have := (List.getElem?_eq_some_iff.mp z3).1; omega)
      | (have := (List.getElem?_eq_some_iff.mp z4).1; omega)
  · have h1 : (w.m ++ [p])[n]? = some a := h1
    have h2 : (w.S ++ [b])[n]? = some c := h2
    have hl := s.len
    rcases get_snoc h1 with z1 | ⟨z1, e1⟩
    · rcases get_snoc h2 with z2 | ⟨z2, e2⟩
      · by_cases hc : c = .dead
        · subst hc; trivial
        · refine (s.obj n a c z1 z2).ext x s ?_
          show upd w.H p o a = w.H a
          rw [upd_ne (old z1 z2 hc)]
      · have := (List.getElem?_eq_some_iff.mp z1).1
        omega
    · rcases get_snoc h2 with z2 | ⟨z2, e2⟩
      · have := (List.getElem?_eq_some_iff.mp z2).1
        omega
      · subst e1 e2; exact hb
  · obtain ⟨xs, e, mo⟩ := s.rk a h
    exact ⟨xs, by show upd w.H p o a = _; rw [upd_ne (ne_of_none e hp)]; exact e, mo⟩
  · rcases Wd.kept_push s.len q with z | z
    · exact s.rd a h z
    · subst z
      exact s.tracked (.inl h) hp
theorem get_set {α : Type} {l : List α} {x y : α} {n k : Nat} (h : (l.set n x)[k]? = some y) : (k = n ∧ y = x) ∨ (k ≠ n ∧ l[k]? = some y) := by
  by_cases e : k = n
  · subst e
    by_cases hk : k < l.length
    · rw [List.getElem?_set_self hk] at h; exact .inl ⟨rfl, (Option.some.inj h).symm⟩
    · rw [List.getElem?_eq_none (by simpa using hk)] at h; cases h
  · rw [List.getElem?_set_ne (Ne.symm e)] at h; exact .inr ⟨e, h⟩
theorem Wd.kept_set {n : Nat} {a c : Addr} {b : Ob} {H' : Hp} {r' : List Addr} (hm : w.m[n]? = some a) (hl : w.kept a) (h : (⟨w.m, w.S.set n b, H', r'⟩ : Wd).kept c) : w.kept c := by
  obtain ⟨k, o, h1, h2, h3⟩ := h
  have h1 : w.m[k]? = some c := h1
  rcases get_set h2 with ⟨e, _⟩ | ⟨_, z⟩
  · subst e; rw [hm] at h1; cases h1; exact hl
  · exact ⟨k, o, h1, z, h3⟩
theorem Ext.put (s : SR K w) {n : Nat} {a : Addr} {o : HO} {b b0 : Ob} (hm : w.m[n]? = some a) (hS : w.S[n]? = some b0) (hd : b0 ≠ Ob.dead) : Ext w (w.put n a o b) := by
  have hl : w.kept a := ⟨n, b0, hm, hS, hd⟩
  refine ⟨⟨[], (List.append_nil _).symm⟩, fun c u h nl => ?_, fun c h => .inl (h.elim .inl fun q => .inr (Wd.kept_set hm hl q))⟩
  show upd w.H a o c = some u
  rw [upd_ne fun e => nl (by subst e; exact .inr hl)]; exact h
theorem SR.put (s : SR K w) {n : Nat} {a : Addr} {o : HO} {b b0 : Ob} (hm : w.m[n]? = some a) (hS : w.S[n]? = some b0) (hd : b0 ≠ Ob.dead) (hb : OR K (w.put n a o b) b a) : SR K (w.put n a o b) := by
  have x := Ext.put s (o := o) (b := b) hm hS hd
  refine ⟨by show w.m.length = (w.S.set n b).length; simp [s.len], fun i j c d d' h1 h2 h3 h4 e e' => ?_, fun k c d h1 h2 => ?_, fun c h => ?_, fun c h q => s.rd c h (Wd.kept_set hm ⟨n, b0, hm, hS, hd⟩ q)⟩
  · have h1 : w.m[i]? = some c := h1
    have h2 : w.m[j]? = some c := h2
    have old : ∀ {k : Nat} {d : Ob}, (w.S.set n b)[k]? = some d → d ≠ Ob.dead → ∃ d0, w.S[k]? = some d0 ∧ d0 ≠ Ob.dead := fun {k d} q nd => by
      rcases get_set q with ⟨z, _⟩ | ⟨_, z⟩
      · subst z; exact ⟨b0, hS, hd⟩
      · exact ⟨d, z, nd⟩
    obtain ⟨p1, q1, r1⟩ := old h3 e
    obtain ⟨p2, q2, r2⟩ := old h4 e'
    exact s.inj i j c p1 p2 h1 h2 q1 q2 r1 r2
  · have h1 : w.m[k]? = some c := h1
    rcases get_set h2 with ⟨z, y⟩ | ⟨z, y⟩
    · subst z y
      have e := hm.symm.trans h1
      cases e
      exact hb
    · by_cases hc : d = .dead
      · subst hc; trivial
      · refine (s.obj k c d h1 y).ext x s ?_
        show upd w.H a o c = w.H c
        rw [upd_ne fun e => z ?_]
        subst e
        exact s.inj k n c d b0 h1 hm y hS hc hd
  · obtain ⟨xs, e, mo⟩ := s.rk c h
    refine ⟨xs, ?_, mo⟩
    show upd w.H a o c = _
    rw [upd_ne fun z => s.rd c h (by subst z; exact ⟨n, b0, hm, hS, hd⟩)]; exact e
theorem Wd.kept_ice {n : Nat} {c : Addr} (h : (w.ice n).kept c) : w.kept c := by
  obtain ⟨k, o, h1, h2, h3⟩ := h
  rcases get_set (show (w.S.set n .dead)[k]? = some o from h2) with ⟨_, e⟩ | ⟨_, z⟩
  · exact absurd e h3
  · exact ⟨k, o, h1, z, h3⟩
theorem Ext.ice (w : Wd) (n : Nat) : Ext w (w.ice n) := by
  exact ⟨⟨[], (List.append_nil _).symm⟩, fun _ _ h _ => h, fun c h => .inl (h.elim .inl fun q => .inr (Wd.kept_ice q))⟩
theorem SR.ice (s : SR K w) (n : Nat) : SR K (w.ice n) := by
  have x := Ext.ice w n
  have old : ∀ {k : Nat} {d : Ob}, (w.S.set n .dead)[k]? = some d → d ≠ Ob.dead → w.S[k]? = some d := fun {k d} q nd => by
    rcases get_set q with ⟨_, z⟩ | ⟨_, z⟩
    · exact absurd z nd
    · exact z
  refine ⟨by show w.m.length = (w.S.set n .dead).length; simp [s.len], fun i j c d d' h1 h2 h3 h4 e e' => s.inj i j c d d' h1 h2 (old h3 e) (old h4 e') e e', fun k c d h1 h2 => ?_, s.rk, fun c h q => s.rd c h (Wd.kept_ice q)⟩
  by_cases hc : d = .dead
  · subst hc; trivial
  · exact (s.obj k c d h1 (old h2 hc)).ext x s rfl
theorem live_ice (s : SR K w) {n : Nat} {a : Addr} {b : Ob} (hm : w.m[n]? = some a) (hS : w.S[n]? = some b) (hd : b ≠ Ob.dead) : ¬ (w.ice n).live a := fun h => by
  rcases h with h | h
  · exact s.rd a h ⟨n, b, hm, hS, hd⟩
  obtain ⟨k, o, h1, h2, h3⟩ := h
  have h1 : w.m[k]? = some a := h1
  rcases get_set (show (w.S.set n .dead)[k]? = some o from h2) with ⟨_, e⟩ | ⟨z, y⟩
  · exact h3 e
  · exact z (s.inj k n a o b h1 hm y hS h3 hd)
def Wd.hold (w : Wd) (D : Addr) (o : HO) : Wd := ⟨w.m, w.S, upd w.H D o, D :: w.r⟩
def Wd.grow (w : Wd) (D : Addr) (xs : List V) : Wd := ⟨w.m, w.S, upd w.H D (.lst xs), w.r⟩
theorem Ext.hold (s : SR K w) {D : Addr} {o : HO} (hp : w.H D = none) : Ext w (w.hold D o) := by
  refine ⟨⟨[], (List.append_nil _).symm⟩, fun a u h _ => ?_, fun a h => ?_⟩
  · show upd w.H D _ a = some u
    rw [upd_ne (ne_of_none h hp)]; exact h
  · rcases h with h | h
    · rcases List.mem_cons.mp h with z | z
      · subst z; exact .inr hp
      · exact .inl (.inl z)
    · exact .inl (.inr h)
theorem SR.hold (s : SR K w) {D : Addr} {o : HO} (hp : w.H D = none) (mo : MutO o) : SR K (w.hold D o) := by
  have x := Ext.hold s (o := o) hp
  have nd : ∀ {a : Addr}, w.live a → a ≠ D := fun {a} h e => by subst e; exact s.tracked h hp
  refine ⟨s.len, s.inj, fun n a b h1 h2 => ?_, fun a h => ?_, fun a h q => ?_⟩
  · by_cases hb : b = .dead
    · subst hb; trivial
    · refine (s.obj n a b h1 h2).ext x s ?_
      show upd w.H D _ a = w.H a
      rw [upd_ne (nd (.inr ⟨n, b, h1, h2, hb⟩))]
  · rcases List.mem_cons.mp h with z | z
    · subst z; exact ⟨o, upd_same, .inl mo⟩
    · obtain ⟨ys, e, mo'⟩ := s.rk a z
      exact ⟨ys, by show upd w.H D _ a = _; rw [upd_ne (ne_of_none e hp)]; exact e, mo'⟩
  · rcases List.mem_cons.mp h with z | z
    · subst z; exact s.tracked (.inr q) hp
    · exact s.rd a z q
theorem Ext.grow {D : Addr} {xs : List V} (hD : D ∈ w.r) : Ext w (w.grow D xs) :=
  ⟨⟨[], (List.append_nil _).symm⟩, fun a u h nl => by
    show upd w.H D _ a = some u
    rw [upd_ne fun e => nl (by subst e; exact .inl hD)]; exact h, fun _ h => .inl h⟩
theorem SR.grow (s : SR K w) {D : Addr} {xs : List V} (hD : D ∈ w.r) : SR K (w.grow D xs) := by
  have x := Ext.grow (xs := xs) hD
  refine ⟨s.len, s.inj, fun n a b h1 h2 => ?_, fun a h => ?_, s.rd⟩
  · by_cases hb : b = .dead
    · subst hb; trivial
    · refine (s.obj n a b h1 h2).ext x s ?_
      show upd w.H D _ a = w.H a
      rw [upd_ne fun e => s.rd D hD (by subst e; exact ⟨n, b, h1, h2, hb⟩)]
  · by_cases e : a = D
    · subst e; exact ⟨_, upd_same, .inl (.inl ⟨xs, rfl⟩)⟩
    · obtain ⟨ys, q, mo⟩ := s.rk a h
      exact ⟨ys, by show upd w.H D _ a = _; rw [upd_ne e]; exact q, mo⟩
theorem let_go_r {D : Addr} {l : List Addr} (h : D ∉ l) : (D :: l).filter (fun a => decide (a ≠ D)) = l := by
  rw [List.filter_cons_of_neg (by simp)]
  exact List.filter_eq_self.mpr fun a ha => decide_eq_true fun e => h (by subst e; exact ha)
structure Stp (w w' : Wd) : Prop where
  x : Ext w w'
  r : w'.r = w.r
  k : ∀ a ∈ w.r, w'.H a = w.H a
theorem Stp.refl (w : Wd) : Stp w w := ⟨Ext.refl w, rfl, fun _ _ => rfl⟩
theorem Stp.trans {w w1 w2 : Wd} (a : Stp w w1) (b : Stp w1 w2) : Stp w w2 := ⟨a.x.trans b.x, b.r.trans a.r, fun c h => (b.k c (by rw [a.r]; exact h)).trans (a.k c h)⟩
theorem Stp.new (s : SR K w) {p : Addr} {o : HO} (hp : w.H p = none) : Stp w (w.new p o) := ⟨Ext.new s hp, rfl, fun a h => by
  show upd w.H p o a = w.H a
  rw [upd_ne fun e => s.tracked (.inl h) (by rw [e]; exact hp)]⟩
theorem Stp.push (s : SR K w) {p : Addr} {o : HO} {b : Ob} (hp : w.H p = none) : Stp w (w.push p o b) := ⟨Ext.push s hp, rfl, fun a h => by
  show upd w.H p o a = w.H a
  rw [upd_ne fun e => s.tracked (.inl h) (by rw [e]; exact hp)]⟩
theorem Stp.put (s : SR K w) {n : Nat} {a : Addr} {o : HO} {b b0 : Ob} (hm : w.m[n]? = some a) (hS : w.S[n]? = some b0) (hd : b0 ≠ .dead) : Stp w (w.put n a o b) := ⟨Ext.put s hm hS hd, rfl, fun c h => by
  show upd w.H a o c = w.H c
  rw [upd_ne fun e => s.rd c h (by rw [e]; exact ⟨n, b0, hm, hS, hd⟩)]⟩
theorem Stp.ice (w : Wd) (n : Nat) : Stp w (w.ice n) := ⟨Ext.ice w n, rfl, fun _ _ => rfl⟩
def Wd.cut (w : Wd) (D : Addr) : Wd := ⟨w.m, w.S, fun b => if b = D then none else w.H b, w.r.filter fun a => decide (a ≠ D)⟩
theorem cut_at {D a : Addr} (h : a ≠ D) : (w.cut D).H a = w.H a := if_neg h
theorem cut_D {D : Addr} : (w.cut D).H D = none := if_pos rfl
theorem cut_back {D : Addr} {o : HO} (h : w.H D = some o) : upd (w.cut D).H D o = w.H := by
  funext b
  by_cases e : b = D
  · subst e; rw [upd_same, h]
  · rw [upd_ne e, cut_at e]
theorem live_cut {D a : Addr} (h : (w.cut D).live a) : w.live a := h.elim (fun q => .inl (List.mem_filter.mp q).1) .inr
mutual
theorem VR.cut (s : SR K w) {D : Addr} (hD : w.live D) : ∀ {u : U} {v : V}, VR K w u v → VR K (w.cut D) u v
  | _, _, .non => .non
  | _, _, .bl b => .bl b
  | _, _, .int i => .int i
  | _, _, .str y => .str y
  | _, _, .tup h r => .tup (h.imp (fun q => (cut_at (fun e => s.notup (by rw [← e]; exact q) hD)).trans q) id) (VRs.cut s hD r)
  | _, _, .lst h n r => .lst ((cut_at (fun e => n (by rw [e]; exact hD))).trans h) (fun q => n (live_cut q)) (VRs.cut s hD r)
  | _, _, .frz h r => .frz (h.imp (fun ⟨o, q⟩ => ⟨o, (cut_at (fun e => s.nofrz (by rw [← e]; exact q) hD)).trans q⟩) id) (VRs.cut s hD r)
  | _, _, .dic h n l r => .dic ((cut_at (fun e => n (by rw [e]; exact hD))).trans h) (fun q => n (live_cut q)) l (VRs.cut s hD r)
  | _, _, .loc h => .loc h
  | _, _, .ty n => .ty n
  | _, _, .exc h h2 c r => .exc ((cut_at (fun e => s.noexv (by rw [← e]; exact h) hD)).trans h) ((cut_at (fun e => s.noxd (by rw [← e]; exact h2) hD)).trans h2) c (VR.cut s hD r)
  | _, _, .cl h => .cl h
theorem VRs.cut (s : SR K w) {D : Addr} (hD : w.live D) : ∀ {us : List U} {vs : List V}, VRs K w us vs → VRs K (w.cut D) us vs
  | _, _, .nil => .nil
  | _, _, .cons h r => .cons (VR.cut s hD h) (VRs.cut s hD r)
end
theorem SR.cut (s : SR K w) {D : Addr} (hD : D ∈ w.r) : SR K (w.cut D) := by
  have ne : ∀ {n : Nat} {a : Addr} {o : Ob}, w.m[n]? = some a → w.S[n]? = some o → o ≠ Ob.dead → a ≠ D := fun {n a o} h1 h2 h3 e => s.rd D hD (by rw [← e]; exact ⟨n, o, h1, h2, h3⟩)
  refine ⟨s.len, s.inj, fun n a o h1 h2 => ?_, fun a h => ?_, fun a h q => s.rd a (List.mem_filter.mp h).1 q⟩
  · have q := s.obj n a o h1 h2
    cases o with
    | lst us => obtain ⟨xs, e, r⟩ := q; exact ⟨xs, (cut_at (ne h1 h2 (by intro z; cases z))).trans e, r.cut s (.inl hD)⟩
    | dic ks us => obtain ⟨xs, e, l, r⟩ := q; exact ⟨xs, (cut_at (ne h1 h2 (by intro z; cases z))).trans e, l, r.cut s (.inl hD)⟩
    | ins c fs => obtain ⟨C, dx, xs, m, e, r⟩ := q; exact ⟨C, dx, xs, m, (cut_at (ne h1 h2 (by intro z; cases z))).trans e, r.cut s (.inl hD)⟩
    | kd ks us => obtain ⟨L, e, r1, r2, r3⟩ := q; exact ⟨L, (cut_at (ne h1 h2 (by intro z; cases z))).trans e, r1.cut s (.inl hD), r2, r3.cut s (.inl hD)⟩
    | bd ks us => obtain ⟨xs, e, l, r⟩ := q; exact ⟨xs, (cut_at (ne h1 h2 (by intro z; cases z))).trans e, l, r.cut s (.inl hD)⟩
    | dead => trivial
  · obtain ⟨h1, h2⟩ := List.mem_filter.mp h
    obtain ⟨xs, e, mo'⟩ := s.rk a h1
    exact ⟨xs, (cut_at (of_decide_eq_true h2)).trans e, mo'⟩
theorem Ext.cut {w1 : Wd} {D : Addr} (x : Ext w1 w) (h0 : w1.H D = none) : Ext w1 (w.cut D) :=
  ⟨x.m, fun a o h n => (cut_at (ne_of_none h h0)).trans (x.keep a o h n), fun a h => x.live a (live_cut h)⟩
structure ER (K : KM) (w : Wd) (d : En) (σ : St) : Prop where
  len : d.length = σ.length
  get : ∀ (i : Nat) (u : U), d[i]? = some (some u) → ∃ v, σ[i]? = some (some v) ∧ VR K w u v
theorem ER.ext {d : En} {σ : St} (x : Ext w w') (s : SR K w) (e : ER K w d σ) : ER K w' d σ :=
  ⟨e.len, fun i u h => let ⟨v, h1, h2⟩ := e.get i u h; ⟨v, h1, h2.ext x s⟩⟩
theorem ER.set {d : En} {σ : St} {u : U} {v : V} (e : ER K w d σ) (i : Nat) (r : VR K w u v) : ER K w (d.set i (some u)) (σ.set i (some v)) := by
  refine ⟨by simp [e.len], fun j y h => ?_⟩
  rcases get_set h with ⟨z, q⟩ | ⟨z, q⟩
  · subst z
    cases q
    have hj : j < σ.length := by
      have := (List.getElem?_eq_some_iff.mp h).1
      simpa [e.len] using this
    exact ⟨v, List.getElem?_set_self hj, r⟩
  · obtain ⟨x, h1, h2⟩ := e.get j y q
    exact ⟨x, by rw [List.getElem?_set_ne (Ne.symm z)]; exact h1, h2⟩
theorem ER.forget {d : En} {σ : St} (e : ER K w d σ) (i : Nat) (o : Option V) : ER K w (d.set i none) (σ.set i o) := by
  refine ⟨by simp [e.len], fun j y h => ?_⟩
  rcases get_set h with ⟨z, q⟩ | ⟨z, q⟩
  · cases q
  · obtain ⟨x, h1, h2⟩ := e.get j y q
    exact ⟨x, by rw [List.getElem?_set_ne (Ne.symm z)]; exact h1, h2⟩
def enStart (n : Nat) (us : List U) : En := us.map some ++ List.replicate (n - us.length) none
theorem ER.start {N : List Str} {us : List U} {vs : List V} (r : VRs K w us vs) : ER K w (enStart N.length us) (start N vs) := by
  refine ⟨by simp [enStart, L2.start, r.length], fun i u h => ?_⟩
  unfold enStart at h
  by_cases hi : i < us.length
  · rw [List.getElem?_append_left (by simpa using hi), List.getElem?_map] at h
    cases q : us[i]? with
    | none => rw [q] at h; cases h
    | some y =>
      rw [q] at h
      cases h
      obtain ⟨v, h1, h2⟩ := r.get q
      refine ⟨v, ?_, h2⟩
      unfold L2.start
      rw [List.getElem?_append_left (by simpa [← r.length] using hi), List.getElem?_map, h1]
      rfl
  · rw [List.getElem?_append_right (by simpa using hi)] at h
    have := List.mem_of_getElem? h
    rw [List.mem_replicate] at this
    cases this.2
end
end DL
namespace DL
open PySem PySem.Spec L2
abbrev FE := En → Sto → R U
abbrev FT := En → Sto → R Bool
abbrev FA := En → Sto → R (List U)
inductive Fl where
  | nx (d : En) | rt (u : U) | bk (d : En) | ct (d : En) | ex (x : Exc) (d : En)
abbrev FS := En → Sto → R Fl
def XRel (K : KM) (w : Wd) (x : Exc) (cls : Value) (d : Option Addr) : Prop :=
  K.mg x.cls = some cls ∧ ∃ (dd : Addr) (v : V), d = some dd ∧ w.H dd = some (.xd [(x.fld, v)]) ∧ VR K w x.arg v
def XPost (X : Cx) (Wx : WX) (σ : L2.St) (w : Wd) (x : Exc) (S' : Sto) : Prop :=
  ∀ (w' : Wd) (cls : Value) (d : Option Addr), w'.S = S' → Stp w w' → SR (KMof X) w' → XRel (KMof X) w' x cls d → Wx cls d σ w'.H
def OkE (X : Cx) (w : Wd) (Q : VK) (u : U) (S' : Sto) : Prop :=
  ∀ (w' : Wd) (v : V), w'.S = S' → Stp w w' → SR (KMof X) w' → VR (KMof X) w' u v → Q v w'.H
def OkT (X : Cx) (w : Wd) (Q : Bool → Hp → Prop) (b : Bool) (S' : Sto) : Prop :=
  ∀ (w' : Wd), w'.S = S' → Stp w w' → SR (KMof X) w' → Q b w'.H
def OkA (X : Cx) (w : Wd) (Q : List V → Hp → Prop) (us : List U) (S' : Sto) : Prop :=
  ∀ (w' : Wd) (vs : List V), w'.S = S' → Stp w w' → SR (KMof X) w' → VRs (KMof X) w' us vs → Q vs w'.H
def OkL (X : Cx) (w : Wd) (Q : VK) (us : List U) (S' : Sto) : Prop :=
  ∀ (w' : Wd) (p : Addr) (xs : List V), w'.S = S' → Stp w w' → SR (KMof X) w' → VRs (KMof X) w' us xs → w'.H p = none → Q (.ref p) (upd w'.H p (.lst xs))
def OkS (X : Cx) (Wx : WX) (w : Wd) (D : Ends) (fl : Fl) (S' : Sto) : Prop :=
  ∀ (w' : Wd), w'.S = S' → Stp w w' → SR (KMof X) w' → match fl with
    | .nx d => ∀ σ', ER (KMof X) w' d σ' → D.nx σ' w'.H
    | .rt u => ∀ v, VR (KMof X) w' u v → D.rt v w'.H
    | .bk d => ∀ σ', ER (KMof X) w' d σ' → D.bk σ' w'.H
    | .ct d => ∀ σ', ER (KMof X) w' d σ' → D.ct σ' w'.H
    | .ex x d => ∀ σ', ER (KMof X) w' d σ' → ∀ (cls : Value) (dd : Option Addr), XRel (KMof X) w' x cls dd → Wx cls dd σ' w'.H
section
variable {X : Cx} {Wx : WX} {w w1 : Wd}
theorem XPost.up {σ : L2.St} {x : Exc} {S' : Sto} (h : XPost X Wx σ w x S') (st : Stp w w1) : XPost X Wx σ w1 x S' := fun w' cls d e s2 sr xr => h w' cls d e (st.trans s2) sr xr
theorem OkE.up {Q : VK} {u : U} {S' : Sto} (h : OkE X w Q u S') (st : Stp w w1) : OkE X w1 Q u S' := fun w' v e s2 sr r => h w' v e (st.trans s2) sr r
theorem OkT.up {Q : Bool → Hp → Prop} {u : Bool} {S' : Sto} (h : OkT X w Q u S') (st : Stp w w1) : OkT X w1 Q u S' := fun w' e s2 sr => h w' e (st.trans s2) sr
theorem OkA.up {Q : List V → Hp → Prop} {u : List U} {S' : Sto} (h : OkA X w Q u S') (st : Stp w w1) : OkA X w1 Q u S' := fun w' v e s2 sr r => h w' v e (st.trans s2) sr r
theorem OkL.up {Q : VK} {u : List U} {S' : Sto} (h : OkL X w Q u S') (st : Stp w w1) : OkL X w1 Q u S' := fun w' p xs e s2 sr r hp => h w' p xs e (st.trans s2) sr r hp
theorem OkS.up {D : Ends} {fl : Fl} {S' : Sto} (h : OkS X Wx w D fl S') (st : Stp w w1) : OkS X Wx w1 D fl S' := fun w' e s2 sr => h w' e (st.trans s2) sr
theorem OkE.here {Q : VK} {u : U} (h : OkE X w Q u w.S) (s : SR (KMof X) w) {v : V} (r : VR (KMof X) w u v) : Q v w.H := h w v rfl (Stp.refl w) s r
end
def tE (X : Cx) (Wx : WX) (f : FE) : TE := fun σ H Q => ∃ (w : Wd) (d : En), w.H = H ∧ SR (KMof X) w ∧ ER (KMof X) w d σ ∧ Pst (f d w.S) (OkE X w Q) (XPost X Wx σ w)
def tT (X : Cx) (Wx : WX) (f : FT) : TT := fun σ H Q => ∃ (w : Wd) (d : En), w.H = H ∧ SR (KMof X) w ∧ ER (KMof X) w d σ ∧ Pst (f d w.S) (OkT X w Q) (XPost X Wx σ w)
def tA (X : Cx) (Wx : WX) (f : FA) : TA := fun σ H Q => ∃ (w : Wd) (d : En), w.H = H ∧ SR (KMof X) w ∧ ER (KMof X) w d σ ∧ Pst (f d w.S) (OkA X w Q) (XPost X Wx σ w)
def tL (X : Cx) (Wx : WX) (f : FA) : TE := fun σ H Q => ∃ (w : Wd) (d : En), w.H = H ∧ SR (KMof X) w ∧ ER (KMof X) w d σ ∧ Pst (f d w.S) (OkL X w Q) (XPost X Wx σ w)
def tS (X : Cx) (Wx : WX) (f : FS) : TS := fun D σ H => ∃ (w : Wd) (d : En), w.H = H ∧ SR (KMof X) w ∧ ER (KMof X) w d σ ∧ Pst (f d w.S) (OkS X Wx w D) (fun _ _ => False)
def SimE (X : Cx) (Wx : WX) (e : Expr) (f : FE) : Prop := PE X e (tE X Wx f)
def SimT (X : Cx) (Wx : WX) (e : Expr) (f : FT) : Prop := PT X e (tT X Wx f)
def SimW (X : Cx) (Wx : WX) (e : Expr) (f : FT) : Prop := PW X e (tT X Wx f)
def SimA (X : Cx) (Wx : WX) (es : List Expr) (f : FA) : Prop := PA X es (tA X Wx f)
def SimL (X : Cx) (Wx : WX) (e : Expr) (f : FA) : Prop := PE X e (tL X Wx f)
def SimS (X : Cx) (Wx : WX) (st : Stmt) (f : FS) : Prop := PS X st (tS X Wx f)
def SimB (X : Cx) (Wx : WX) (sts : List Stmt) (f : FS) : Prop := PSs X sts (tS X Wx f)
section
variable {X : Cx} {Wx : WX} {e : Expr} {es : List Expr} {st : Stmt} {sts : List Stmt}
theorem SimE.out {f : FE} (h : SimE X Wx e f) : ∃ t, PE X e t ∧ ∀ (w : Wd) (d : En) (σ : L2.St) (Q : VK), SR (KMof X) w → ER (KMof X) w d σ → Pst (f d w.S) (OkE X w Q) (XPost X Wx σ w) → t σ w.H Q := ⟨_, h, fun w d _ _ s e p => ⟨w, d, rfl, s, e, p⟩⟩
theorem SimE.mk {f : FE} {t : TE} (p : PE X e t) (h : ∀ (w : Wd) (d : En) (σ : L2.St) (Q : VK), SR (KMof X) w → ER (KMof X) w d σ → Pst (f d w.S) (OkE X w Q) (XPost X Wx σ w) → t σ w.H Q) : SimE X Wx e f :=
  ⟨fun pins s σ H Q I ⟨w, d, e, sr, er, q⟩ => p.run pins s σ H Q I (by subst e; exact h w d σ Q sr er q)⟩
theorem SimL.out {f : FA} (h : SimL X Wx e f) : ∃ t, PE X e t ∧ ∀ (w : Wd) (d : En) (σ : L2.St) (Q : VK), SR (KMof X) w → ER (KMof X) w d σ → Pst (f d w.S) (OkL X w Q) (XPost X Wx σ w) → t σ w.H Q := ⟨_, h, fun w d _ _ s e p => ⟨w, d, rfl, s, e, p⟩⟩
theorem SimL.mk {f : FA} {t : TE} (p : PE X e t) (h : ∀ (w : Wd) (d : En) (σ : L2.St) (Q : VK), SR (KMof X) w → ER (KMof X) w d σ → Pst (f d w.S) (OkL X w Q) (XPost X Wx σ w) → t σ w.H Q) : SimL X Wx e f :=
  ⟨fun pins s σ H Q I ⟨w, d, e, sr, er, q⟩ => p.run pins s σ H Q I (by subst e; exact h w d σ Q sr er q)⟩
theorem SimT.out {f : FT} (h : SimT X Wx e f) : ∃ t, PT X e t ∧ ∀ (w : Wd) (d : En) (σ : L2.St) (Q : Bool → Hp → Prop), SR (KMof X) w → ER (KMof X) w d σ → Pst (f d w.S) (OkT X w Q) (XPost X Wx σ w) → t σ w.H Q := ⟨_, h, fun w d _ _ s e p => ⟨w, d, rfl, s, e, p⟩⟩
theorem SimT.mk {f : FT} {t : TT} (p : PT X e t) (h : ∀ (w : Wd) (d : En) (σ : L2.St) (Q : Bool → Hp → Prop), SR (KMof X) w → ER (KMof X) w d σ → Pst (f d w.S) (OkT X w Q) (XPost X Wx σ w) → t σ w.H Q) : SimT X Wx e f :=
  ⟨fun pins s σ H Q I ⟨w, d, e, sr, er, q⟩ => p.run pins s σ H Q I (by subst e; exact h w d σ Q sr er q)⟩
theorem SimW.out {f : FT} (h : SimW X Wx e f) : ∃ t, PW X e t ∧ ∀ (w : Wd) (d : En) (σ : L2.St) (Q : Bool → Hp → Prop), SR (KMof X) w → ER (KMof X) w d σ → Pst (f d w.S) (OkT X w Q) (XPost X Wx σ w) → t σ w.H Q := ⟨_, h, fun w d _ _ s e p => ⟨w, d, rfl, s, e, p⟩⟩
theorem SimW.mk {f : FT} {t : TT} (p : PW X e t) (h : ∀ (w : Wd) (d : En) (σ : L2.St) (Q : Bool → Hp → Prop), SR (KMof X) w → ER (KMof X) w d σ → Pst (f d w.S) (OkT X w Q) (XPost X Wx σ w) → t σ w.H Q) : SimW X Wx e f :=
  ⟨fun whole pins s σ H Q I ⟨w, d, e, sr, er, q⟩ => p.run whole pins s σ H Q I (by subst e; exact h w d σ Q sr er q)⟩
theorem SimA.out {f : FA} (h : SimA X Wx es f) : ∃ t, PA X es t ∧ ∀ (w : Wd) (d : En) (σ : L2.St) (Q : List V → Hp → Prop), SR (KMof X) w → ER (KMof X) w d σ → Pst (f d w.S) (OkA X w Q) (XPost X Wx σ w) → t σ w.H Q := ⟨_, h, fun w d _ _ s e p => ⟨w, d, rfl, s, e, p⟩⟩
theorem SimA.mk {f : FA} {t : TA} (p : PA X es t) (h : ∀ (w : Wd) (d : En) (σ : L2.St) (Q : List V → Hp → Prop), SR (KMof X) w → ER (KMof X) w d σ → Pst (f d w.S) (OkA X w Q) (XPost X Wx σ w) → t σ w.H Q) : SimA X Wx es f :=
  ⟨fun pos pins s σ H Q I ⟨w, d, e, sr, er, q⟩ => p.run pos pins s σ H Q I (by subst e; exact h w d σ Q sr er q)⟩
theorem SimS.out {f : FS} (h : SimS X Wx st f) : ∃ t, PS X st t ∧ ∀ (w : Wd) (d : En) (σ : L2.St) (D : Ends), SR (KMof X) w → ER (KMof X) w d σ → Pst (f d w.S) (OkS X Wx w D) (fun _ _ => False) → t D σ w.H := ⟨_, h, fun w d _ _ s e p => ⟨w, d, rfl, s, e, p⟩⟩
theorem SimS.mk {f : FS} {t : TS} (p : PS X st t) (h : ∀ (w : Wd) (d : En) (σ : L2.St) (D : Ends), SR (KMof X) w → ER (KMof X) w d σ → Pst (f d w.S) (OkS X Wx w D) (fun _ _ => False) → t D σ w.H) : SimS X Wx st f :=
  ⟨fun pins s σ H D I ⟨w, d, e, sr, er, q⟩ => p.run pins s σ H D I (by subst e; exact h w d σ D sr er q)⟩
theorem SimB.out {f : FS} (h : SimB X Wx sts f) : ∃ t, PSs X sts t ∧ ∀ (w : Wd) (d : En) (σ : L2.St) (D : Ends), SR (KMof X) w → ER (KMof X) w d σ → Pst (f d w.S) (OkS X Wx w D) (fun _ _ => False) → t D σ w.H := ⟨_, h, fun w d _ _ s e p => ⟨w, d, rfl, s, e, p⟩⟩
theorem SimB.mk {f : FS} {t : TS} (p : PSs X sts t) (h : ∀ (w : Wd) (d : En) (σ : L2.St) (D : Ends), SR (KMof X) w → ER (KMof X) w d σ → Pst (f d w.S) (OkS X Wx w D) (fun _ _ => False) → t D σ w.H) : SimB X Wx sts f :=
  ⟨fun pins s σ H D I ⟨w, d, e, sr, er, q⟩ => p.run pins s σ H D I (by subst e; exact h w d σ D sr er q)⟩
end
def fVar (i : Nat) : FE := fun d S => match d[i]? with
  | some (some u) => .ok u S
  | _ => .bad
def fC (u : U) : FE := fun _ S => .ok u S
section
variable {X : Cx} {Wx : WX}
theorem se_var (i : Nat) {x : Str} {pos : Pos} (hN : X.N[i]? = some x := by rfl) (hv : Vis X.env.scope x := by first | exact Or.inl rfl | exact Or.inr (Or.inl rfl) | exact Or.inr (Or.inr rfl))
    (hd : (x == ("__debug__" : Str)) = false := by decide) (hcd : (x == ("__classdict__" : Str)) = false := by decide) : SimE X Wx (.Name x pos) (fVar i) := by
  refine SimE.mk (pe_var hN hv hd hcd) (fun w d σ Q s e h => ?_)
  unfold fVar at h
  split at h
  · rename_i u hu
    obtain ⟨v, h1, h2⟩ := e.get i u hu
    exact ⟨v, h1, OkE.here h s h2⟩
  · exact h.elim
theorem se_int {i : Int} {j pos} : SimE X Wx (.Constant (.int i) j pos) (fC (.int i)) := SimE.mk (pe_int) (fun w d σ Q s e h => OkE.here h s (.int i))
theorem se_bl {b : Bool} {j pos} : SimE X Wx (.Constant (.bool b) j pos) (fC (.bl b)) := SimE.mk (pe_bl) (fun w d σ Q s e h => OkE.here h s (.bl b))
theorem se_non {j pos} : SimE X Wx (.Constant .none j pos) (fC .non) := SimE.mk (pe_non) (fun w d σ Q s e h => OkE.here h s .non)
theorem se_str {x : Str} {j pos} : SimE X Wx (.Constant (.str x) j pos) (fC (.str x)) := SimE.mk (pe_str) (fun w d σ Q s e h => OkE.here h s (.str x))
theorem se_glob {x : Str} {v : V} {u : U} {z : Value} {pos : Pos} (hg : Gl X x) (hm : X.mg x = some z) (r : RelV v z) (hv : ∀ w, VR (KMof X) w u v) (hd : (x == ("__debug__" : Str)) = false := by decide) : SimE X Wx (.Name x pos) (fC u) :=
  SimE.mk (pe_glob hg hm r hd) (fun w d σ Q s e h => OkE.here h s (hv w))
theorem se_bltn {x : Str} {v : V} {u : U} {z : Value} {pos : Pos} (hg : Gl X x) (hm : X.mg x = none) (hv : bootBuiltins x = some z) (r : RelV v z) (hr : ∀ w, VR (KMof X) w u v) (hn : x ≠ "__name__" := by decide) (hd : (x == ("__debug__" : Str)) = false := by decide) : SimE X Wx (.Name x pos) (fC u) :=
  SimE.mk (pe_bltn hg hm hv r hn hd) (fun w d σ Q s e h => OkE.here h s (hr w))
def OpSim (X : Cx) (F : Value → Value → Sem Value) (g : U → U → Sto → R U) : Prop := ∃ r, OpR X F r ∧
  ∀ (w : Wd) (x y : U) (v v' : V) (Q : VK), SR (KMof X) w → VR (KMof X) w x v → VR (KMof X) w y v' → Pst (g x y w.S) (OkE X w Q) (fun _ _ => False) → r v v' w.H Q
def f2 (g : U → U → Sto → R U) (fa fb : FE) : FE := fun d S => (fa d S).bind fun x S1 => (fb d S1).bind fun y S2 => g x y S2
def noX (r : R U) : Prop := match r with
  | .exc _ _ => False
  | _ => True
theorem pst_noX {r : R U} {P : U → Sto → Prop} {E : Exc → Sto → Prop} (h : Pst r P E) (n : noX r) : Pst r P (fun _ _ => False) := by
  cases r with
  | ok a S => exact h
  | exc x S => exact n
  | bad => exact h
theorem two {a b : Expr} {ta tb : TE} {fa fb : FE}
    (ha : ∀ (w : Wd) (d : En) (σ : L2.St) (Q : VK), SR (KMof X) w → ER (KMof X) w d σ → Pst (fa d w.S) (OkE X w Q) (XPost X Wx σ w) → ta σ w.H Q)
    (hb : ∀ (w : Wd) (d : En) (σ : L2.St) (Q : VK), SR (KMof X) w → ER (KMof X) w d σ → Pst (fb d w.S) (OkE X w Q) (XPost X Wx σ w) → tb σ w.H Q)
    {g : U → U → Sto → R U} {r : R2} (hg : ∀ (w : Wd) (x y : U) (v v' : V) (Q : VK), SR (KMof X) w → VR (KMof X) w x v → VR (KMof X) w y v' → Pst (g x y w.S) (OkE X w Q) (fun _ _ => False) → r v v' w.H Q) (hn : ∀ x y S, noX (g x y S))
    (w : Wd) (d : En) (σ : L2.St) (Q : VK) (s : SR (KMof X) w) (e : ER (KMof X) w d σ) (h : Pst (f2 g fa fb d w.S) (OkE X w Q) (XPost X Wx σ w)) :
    ta σ w.H fun x H1 => tb σ H1 fun y H2 => r x y H2 Q := by
  refine ha w d σ _ s e ((Pst.of_bind h).mono (fun x S1 h1 w1 v1 eS st s1 r1 => ?_) fun _ _ q => q)
  subst eS
  refine hb w1 d σ _ s1 (e.ext st.x s) ((Pst.of_bind h1).mono (fun y S2 h2 w2 v2 eS2 st2 s2 r2 => ?_) fun _ _ q => q.up st)
  subst eS2
  exact hg w2 x y v1 v2 Q s2 (r1.ext st2.x s1) r2 ((pst_noX h2 (hn x y w2.S)).mono (fun _ _ q => q.up (st.trans st2)) fun _ _ q => q)
theorem se_op {a b : Expr} {fa fb : FE} {op : Operator} {g : U → U → Sto → R U} {pos : Pos} (ho : OpSim X (binaryOp op) g) (hn : ∀ x y S, noX (g x y S)) (ha : SimE X Wx a fa) (hb : SimE X Wx b fb) : SimE X Wx (.BinOp a op b pos) (f2 g fa fb) := by
  obtain ⟨r, ho, hg⟩ := ho
  obtain ⟨ta, pa, ha⟩ := ha.out
  obtain ⟨tb, pb, hb⟩ := hb.out
  exact SimE.mk (pe_op ho pa pb) (fun w d σ Q s e h => two (a := a) (b := b) ha hb hg hn w d σ Q s e h)
theorem se_cmp {a b : Expr} {fa fb : FE} {op : CmpOp} {g : U → U → Sto → R U} {pos : Pos} (ho : OpSim X (compareOp op) g) (hn : ∀ x y S, noX (g x y S)) (ha : SimE X Wx a fa) (hb : SimE X Wx b fb) (hm : behindInMarks op b = false) : SimE X Wx (.Compare a [op] [b] pos) (f2 g fa fb) := by
  obtain ⟨r, ho, hg⟩ := ho
  obtain ⟨ta, pa, ha⟩ := ha.out
  obtain ⟨tb, pb, hb⟩ := hb.out
  exact SimE.mk (pe_cmpR ho pa pb hm) (fun w d σ Q s e h => two (a := a) (b := b) ha hb hg hn w d σ Q s e h)
def asB (r : R U) : R Bool := r.bind fun u S => match u with
  | .bl b => .ok b S
  | _ => .bad
theorem asB_post {r : R U} {w : Wd} {Q : Bool → Hp → Prop} {E : Exc → Sto → Prop} (h : Pst (asB r) (OkT X w Q) E) : Pst r (OkE X w fun x H => ∃ k, x = .bl k ∧ Q k H) E := by
  unfold asB at h
  refine (Pst.of_bind h).mono (fun u S h1 w1 v e st s1 rv => ?_) fun _ _ q => q
  cases rv with
  | bl b => exact ⟨b, rfl, h1 w1 e st s1⟩
  | _ => exact h1.elim
theorem st_cmp {a b : Expr} {fa fb : FE} {op : CmpOp} {g : U → U → Sto → R U} {pos : Pos} (ho : OpSim X (compareOp op) g) (hn : ∀ x y S, noX (g x y S)) (ha : SimE X Wx a fa) (hb : SimE X Wx b fb) (hm : behindInMarks op b = false) : SimT X Wx (.Compare a [op] [b] pos) (fun d S => asB (f2 g fa fb d S)) := by
  obtain ⟨r, ho, hg⟩ := ho
  obtain ⟨ta, pa, ha⟩ := ha.out
  obtain ⟨tb, pb, hb⟩ := hb.out
  exact SimT.mk (pt_cmpR ho pa pb hm) (fun w d σ Q s e h => two (a := a) (b := b) ha hb hg hn w d σ _ s e (asB_post h))
def fCh (g g' : U → U → Sto → R U) (fa fb fc : FE) : FE := fun d S => (fa d S).bind fun x S1 => (fb d S1).bind fun y S2 => (g x y S2).bind fun z S3 => match z with
  | .bl true => (fc d S3).bind fun t S4 => g' y t S4
  | .bl false => .ok (.bl false) S3
  | _ => .bad
theorem chain {a b c : Expr} {ta tb tc : TE} {fa fb fc : FE}
    (ha : ∀ (w : Wd) (d : En) (σ : L2.St) (Q : VK), SR (KMof X) w → ER (KMof X) w d σ → Pst (fa d w.S) (OkE X w Q) (XPost X Wx σ w) → ta σ w.H Q)
    (hb : ∀ (w : Wd) (d : En) (σ : L2.St) (Q : VK), SR (KMof X) w → ER (KMof X) w d σ → Pst (fb d w.S) (OkE X w Q) (XPost X Wx σ w) → tb σ w.H Q)
    (hc : ∀ (w : Wd) (d : En) (σ : L2.St) (Q : VK), SR (KMof X) w → ER (KMof X) w d σ → Pst (fc d w.S) (OkE X w Q) (XPost X Wx σ w) → tc σ w.H Q)
    {g g' : U → U → Sto → R U} {r r' : R2} (hg : ∀ (w : Wd) (x y : U) (v v' : V) (Q : VK), SR (KMof X) w → VR (KMof X) w x v → VR (KMof X) w y v' → Pst (g x y w.S) (OkE X w Q) (fun _ _ => False) → r v v' w.H Q) (hn : ∀ x y S, noX (g x y S))
    (hg' : ∀ (w : Wd) (x y : U) (v v' : V) (Q : VK), SR (KMof X) w → VR (KMof X) w x v → VR (KMof X) w y v' → Pst (g' x y w.S) (OkE X w Q) (fun _ _ => False) → r' v v' w.H Q) (hn' : ∀ x y S, noX (g' x y S))
    (w : Wd) (d : En) (σ : L2.St) (Q : VK) (s : SR (KMof X) w) (e : ER (KMof X) w d σ) (h : Pst (fCh g g' fa fb fc d w.S) (OkE X w Q) (XPost X Wx σ w)) : tChain r r' ta tb tc σ w.H Q := by
  refine ha w d σ _ s e ((Pst.of_bind h).mono (fun x S1 h1 w1 v1 eS st s1 r1 => ?_) fun _ _ q => q)
  subst eS
  have e1 := e.ext st.x s
  refine hb w1 d σ _ s1 e1 ((Pst.of_bind h1).mono (fun y S2 h2 w2 v2 eS2 st2 s2 r2 => ?_) fun _ _ q => q.up st)
  subst eS2
  have st02 := st.trans st2
  have e2 := e1.ext st2.x s1
  refine hg w2 x y v1 v2 _ s2 (r1.ext st2.x s1) r2 ((pst_noX (Pst.of_bind h2) (hn x y w2.S)).mono (fun z S3 h3 w3 v3 eS3 st3 s3 r3 => ?_) fun _ _ q => q)
  subst eS3
  have st03 := st02.trans st3
  have e3 := e2.ext st3.x s2
  cases r3 with
  | bl k =>
    refine ⟨k, rfl, ?_⟩
    cases k with
    | false => exact OkE.here (h3.up st03) s3 (.bl false)
    | true =>
      show tc σ w3.H fun w' H4 => r' v2 w' H4 Q
      have h3 : Pst ((fc d w3.S).bind fun t S4 => g' y t S4) (OkE X w Q) (XPost X Wx σ w) := h3
      refine hc w3 d σ _ s3 e3 ((Pst.of_bind h3).mono (fun t S4 h4 w4 v4 eS4 st4 s4 r4 => ?_) fun _ _ q => q.up st03)
      subst eS4
      exact hg' w4 y t v2 v4 Q s4 ((r2.ext st3.x s2).ext st4.x s3) r4 ((pst_noX h4 (hn' y t w4.S)).mono (fun _ _ q => q.up (st03.trans st4)) fun _ _ q => q)
  | _ => exact h3.elim
theorem st_chain {a b c : Expr} {fa fb fc : FE} {op op' : CmpOp} {g g' : U → U → Sto → R U} {pos : Pos} (ho : OpSim X (compareOp op) g) (hn : ∀ x y S, noX (g x y S)) (ho' : OpSim X (compareOp op') g') (hn' : ∀ x y S, noX (g' x y S))
    (ha : SimE X Wx a fa) (hb : SimE X Wx b fb) (hc : SimE X Wx c fc) (hm : lastMarks [op, op'] [b, c] = false := by with_unfolding_all rfl) : SimT X Wx (.Compare a [op, op'] [b, c] pos) (fun d S => asB (fCh g g' fa fb fc d S)) := by
  obtain ⟨r, ho, hg⟩ := ho
  obtain ⟨r', ho', hg'⟩ := ho'
  obtain ⟨ta, pa, ha⟩ := ha.out
  obtain ⟨tb, pb, hb⟩ := hb.out
  obtain ⟨tc, pc, hc⟩ := hc.out
  exact SimT.mk (pt_chain ho ho' pa pb pc hm) (fun w d σ Q s e h => chain (a := a) (b := b) (c := c) ha hb hc hg hn hg' hn' w d σ _ s e (asB_post h))
def f1 (g : U → Sto → R U) (fa : FE) : FE := fun d S => (fa d S).bind g
def UnSim (X : Cx) (F : Value → Sem Value) (g : U → Sto → R U) : Prop := ∃ r, UnR X F r ∧ (∀ x S, noX (g x S)) ∧ ∀ (w : Wd) (x : U) (v : V) (Q : VK), SR (KMof X) w → VR (KMof X) w x v → Pst (g x w.S) (OkE X w Q) (fun _ _ => False) → r v w.H Q
theorem se_un {a : Expr} {fa : FE} {op : UnaryOp} {g : U → Sto → R U} {pos : Pos} (ho : UnSim X (unaryOp op) g) (ha : SimE X Wx a fa) : SimE X Wx (.UnaryOp op a pos) (f1 g fa) := by
  obtain ⟨r, ho, hn, hg⟩ := ho
  obtain ⟨ta, pa, ha⟩ := ha.out
  refine SimE.mk (pe_un ho pa) (fun w d σ Q s e h => ?_)
  refine ha w d σ _ s e ((Pst.of_bind h).mono (fun x S1 h1 w1 v1 eS st s1 r1 => ?_) fun _ _ q => q)
  subst eS
  exact hg w1 x v1 Q s1 r1 ((pst_noX h1 (hn x w1.S)).mono (fun _ _ q => q.up st) fun _ _ q => q)
def truU (u : U) (S : Sto) : Option Bool := match u with
  | .non => some false
  | .bl b => some b
  | .int i => some (i != 0)
  | .str x => if x.length ≤ sizeLine then some ((x.length : Int) != 0) else none
  | .tup us => some (!us.isEmpty)
  | .lst us => some (!us.isEmpty)
  | .frz us => some (!us.isEmpty)
  | .dic ks _ => some (!ks.isEmpty)
  | .loc n => match S[n]? with
    | some (.lst us) => some (!us.isEmpty)
    | some (.dic ks _) => some (!ks.isEmpty)
    | _ => none
  | .ty _ => none
  | .exc _ _ _ => none
  | .cl _ => none
theorem vrs_empty {K : KM} {w : Wd} {us : List U} {xs : List V} (r : VRs K w us xs) : us.isEmpty = xs.isEmpty := by
  cases r <;> rfl
theorem zip_empty {ks : List Key} {us : List U} {xs : List V} {K : KM} {w : Wd} (l : ks.length = us.length) (r : VRs K w us xs) : (ks.zip xs).isEmpty = ks.isEmpty := by
  have h := r.length
  cases ks with
  | nil => rfl
  | cons k ks =>
    cases xs with
    | nil => rw [List.length_cons] at l; rw [List.length_nil] at h; omega
    | cons x xs => rfl
theorem truU_ok {w : Wd} {u : U} {v : V} {b : Bool} (s : SR (KMof X) w) (r : VR (KMof X) w u v) (h : truU u w.S = some b) : TruV X.K v w.H b := by
  cases r with
  | non => cases h; rfl
  | bl c => cases h; rfl
  | int i => cases h; rfl
  | str x =>
    unfold truU at h
    dsimp only at h
    split at h
    · rename_i hl; cases h; exact ⟨hl, rfl⟩
    · cases h
  | tup hq rs => cases h; exact .inr (.inl ⟨_, hq.sq, by rw [vrs_empty rs]⟩)
  | lst hq n rs => cases h; exact .inl ⟨_, SqL.of hq, by rw [vrs_empty rs]⟩
  | frz hq rs => cases h; exact .inl ⟨_, hq.sq, by rw [vrs_empty rs]⟩
  | dic hq n l rs => cases h; exact .inr (.inr ⟨_, hq, by rw [zip_empty l rs]⟩)
  | @loc n a hm =>
    unfold truU at h
    dsimp only at h
    split at h
    · rename_i us hS
      cases h
      obtain ⟨xs, q, rs⟩ := s.obj n a _ hm hS
      exact .inl ⟨xs, SqL.of q, by rw [vrs_empty rs]⟩
    · rename_i ks us hS
      cases h
      obtain ⟨xs, q, l, rs⟩ := s.obj n a _ hm hS
      exact .inr (.inr ⟨_, q, by rw [zip_empty l rs]⟩)
    · cases h
  | ty n => cases h
  | exc _ _ _ _ => cases h
  | cl _ => cases h
def oB (o : Option Bool) (S : Sto) : R Bool := match o with
  | some b => .ok b S
  | none => .bad
def fTru (fa : FE) : FT := fun d S => (fa d S).bind fun u S1 => oB (truU u S1) S1
theorem tru_post {w : Wd} {ta : TE} {fa : FE} (ha : ∀ (w : Wd) (d : En) (σ : L2.St) (Q : VK), SR (KMof X) w → ER (KMof X) w d σ → Pst (fa d w.S) (OkE X w Q) (XPost X Wx σ w) → ta σ w.H Q)
    {d : En} {σ : L2.St} {Q : Bool → Hp → Prop} (s : SR (KMof X) w) (e : ER (KMof X) w d σ) (h : Pst (fTru fa d w.S) (OkT X w Q) (XPost X Wx σ w)) : ta σ w.H fun x H1 => ∃ k, TruV X.K x H1 k ∧ Q k H1 := by
  refine ha w d σ _ s e ((Pst.of_bind h).mono (fun u S1 h1 w1 v1 eS st s1 r1 => ?_) fun _ _ q => q)
  subst eS
  unfold oB at h1
  split at h1
  · rename_i b hb
    exact ⟨b, truU_ok s1 r1 hb, h1 w1 rfl st s1⟩
  · exact h1.elim
theorem st_val {e : Expr} {f : FE} (h : SimE X Wx e f) (he : ∀ whole, isTrue e X.env whole = (do let v ← whole; standAt e.pos; holding [v] (truthy v)) := by intro _; rfl) : SimT X Wx e (fTru f) := by
  obtain ⟨t, p, h⟩ := h.out
  exact SimT.mk (pt_truth p he) (fun w d σ Q s e h1 => tru_post h s e h1)
def fAnd (fa fb : FT) : FT := fun d S => (fa d S).bind fun b S1 => if b then fb d S1 else .ok false S1
def fOr (fa fb : FT) : FT := fun d S => (fa d S).bind fun b S1 => if b then .ok true S1 else fb d S1
def fNot (fa : FT) : FT := fun d S => (fa d S).bind fun b S1 => .ok (!b) S1
variable {a b : Expr} {pos : Pos} {rest : List Expr}
theorem SimW.t {e : Expr} {f : FT} (h : SimW X Wx e f) : SimT X Wx e f := let ⟨t, p, h⟩ := h.out; SimT.mk p.pt h
theorem sw_and1 {f : FT} (h : SimT X Wx a f) : SimW X Wx (.BoolOp .And [a] pos) f := let ⟨t, p, h⟩ := h.out; SimW.mk (pw_and1 p) h
theorem sw_or1 {f : FT} (h : SimT X Wx a f) : SimW X Wx (.BoolOp .Or [a] pos) f := let ⟨t, p, h⟩ := h.out; SimW.mk (pw_or1 p) h
theorem sw_and {fa fb : FT} (ha : SimT X Wx a fa) (hb : SimW X Wx (.BoolOp .And (b :: rest) pos) fb) : SimW X Wx (.BoolOp .And (a :: b :: rest) pos) (fAnd fa fb) := by
  obtain ⟨ta, pa, ha⟩ := ha.out
  obtain ⟨tb, pb, hb⟩ := hb.out
  refine SimW.mk (pw_and pa pb) (fun w d σ Q s e h => ?_)
  refine ha w d σ _ s e ((Pst.of_bind h).mono (fun c S1 h1 w1 eS st s1 => ?_) fun _ _ q => q)
  subst eS
  cases c with
  | true => exact hb w1 d σ Q s1 (e.ext st.x s) (h1.mono (fun _ _ q => q.up st) fun _ _ q => q.up st)
  | false => exact h1 w1 rfl st s1
theorem sw_or {fa fb : FT} (ha : SimT X Wx a fa) (hb : SimW X Wx (.BoolOp .Or (b :: rest) pos) fb) : SimW X Wx (.BoolOp .Or (a :: b :: rest) pos) (fOr fa fb) := by
  obtain ⟨ta, pa, ha⟩ := ha.out
  obtain ⟨tb, pb, hb⟩ := hb.out
  refine SimW.mk (pw_or pa pb) (fun w d σ Q s e h => ?_)
  refine ha w d σ _ s e ((Pst.of_bind h).mono (fun c S1 h1 w1 eS st s1 => ?_) fun _ _ q => q)
  subst eS
  cases c with
  | false => exact hb w1 d σ Q s1 (e.ext st.x s) (h1.mono (fun _ _ q => q.up st) fun _ _ q => q.up st)
  | true => exact h1 w1 rfl st s1
theorem st_not {f : FT} (h : SimT X Wx a f) : SimT X Wx (.UnaryOp .Not a pos) (fNot f) := by
  obtain ⟨t, p, h⟩ := h.out
  refine SimT.mk (pt_not p) (fun w d σ Q s e h0 => ?_)
  exact h w d σ _ s e ((Pst.of_bind h0).mono (fun c S1 h1 w1 eS st s1 => h1 w1 eS st s1) fun _ _ q => q)
def fAndV (fa fb : FE) : FE := fun d S => (fa d S).bind fun u S1 => match truU u S1 with
  | some true => fb d S1
  | some false => .ok u S1
  | none => .bad
def fOrV (fa fb : FE) : FE := fun d S => (fa d S).bind fun u S1 => match truU u S1 with
  | some true => .ok u S1
  | some false => fb d S1
  | none => .bad
def fNotV (fa : FE) : FE := fun d S => (fa d S).bind fun u S1 => match truU u S1 with
  | some b => .ok (.bl (!b)) S1
  | none => .bad
theorem se_one {op} {f : FE} (h : SimE X Wx a f) : SimE X Wx (.BoolOp op [a] pos) f := let ⟨t, p, h⟩ := h.out; SimE.mk (pe_one p) h
theorem se_and {fa fb : FE} (ha : SimE X Wx a fa) (hb : SimE X Wx (.BoolOp .And (b :: rest) pos) fb) : SimE X Wx (.BoolOp .And (a :: b :: rest) pos) (fAndV fa fb) := by
  obtain ⟨ta, pa, ha⟩ := ha.out
  obtain ⟨tb, pb, hb⟩ := hb.out
  refine SimE.mk (pe_andT pa pb) (fun w d σ Q s e h => ?_)
  refine ha w d σ _ s e ((Pst.of_bind h).mono (fun u S1 h1 w1 v1 eS st s1 r1 => ?_) fun _ _ q => q)
  subst eS
  split at h1
  · rename_i hb'
    refine ⟨true, truU_ok s1 r1 hb', ?_⟩
    exact hb w1 d σ Q s1 (e.ext st.x s) (h1.mono (fun _ _ q => q.up st) fun _ _ q => q.up st)
  · rename_i hb'
    exact ⟨false, truU_ok s1 r1 hb', h1 w1 v1 rfl st s1 r1⟩
  · exact h1.elim
theorem se_or {fa fb : FE} (ha : SimE X Wx a fa) (hb : SimE X Wx (.BoolOp .Or (b :: rest) pos) fb) : SimE X Wx (.BoolOp .Or (a :: b :: rest) pos) (fOrV fa fb) := by
  obtain ⟨ta, pa, ha⟩ := ha.out
  obtain ⟨tb, pb, hb⟩ := hb.out
  refine SimE.mk (pe_orT pa pb) (fun w d σ Q s e h => ?_)
  refine ha w d σ _ s e ((Pst.of_bind h).mono (fun u S1 h1 w1 v1 eS st s1 r1 => ?_) fun _ _ q => q)
  subst eS
  split at h1
  · rename_i hb'
    exact ⟨true, truU_ok s1 r1 hb', h1 w1 v1 rfl st s1 r1⟩
  · rename_i hb'
    refine ⟨false, truU_ok s1 r1 hb', ?_⟩
    exact hb w1 d σ Q s1 (e.ext st.x s) (h1.mono (fun _ _ q => q.up st) fun _ _ q => q.up st)
  · exact h1.elim
def fIf {α : Type} (c : FT) (fa fb : En → Sto → R α) : En → Sto → R α := fun d S => (c d S).bind fun b S1 => if b then fa d S1 else fb d S1
theorem se_if {c : Expr} {fc : FT} {fa fb : FE} (hc : SimT X Wx c fc) (ha : SimE X Wx a fa) (hb : SimE X Wx b fb) : SimE X Wx (.IfExp c a b pos) (fIf fc fa fb) := by
  obtain ⟨tc, pc, hc⟩ := hc.out
  obtain ⟨ta, pa, ha⟩ := ha.out
  obtain ⟨tb, pb, hb⟩ := hb.out
  refine SimE.mk (pe_ifExp pc pa pb) (fun w d σ Q s e h => ?_)
  refine hc w d σ _ s e ((Pst.of_bind h).mono (fun k S1 h1 w1 eS st s1 => ?_) fun _ _ q => q)
  subst eS
  cases k with
  | true => exact ha w1 d σ Q s1 (e.ext st.x s) (h1.mono (fun _ _ q => q.up st) fun _ _ q => q.up st)
  | false => exact hb w1 d σ Q s1 (e.ext st.x s) (h1.mono (fun _ _ q => q.up st) fun _ _ q => q.up st)
def aNil : FA := fun _ S => .ok [] S
def aCons (f : FE) (g : FA) : FA := fun d S => (f d S).bind fun u S1 => (g d S1).bind fun us S2 => .ok (u :: us) S2
theorem sa_nil : SimA X Wx [] aNil := SimA.mk (pa_nil) (fun w d σ Q s e h => h w [] rfl (Stp.refl w) s .nil)
theorem sa_cons {e : Expr} {es : List Expr} {f : FE} {g : FA} (h1 : SimE X Wx e f) (h2 : SimA X Wx es g) (hs : starEach (e :: es) X.env = (false, eval e X.env) :: starEach es X.env := by rfl) : SimA X Wx (e :: es) (aCons f g) := by
  obtain ⟨t, p, h1⟩ := h1.out
  obtain ⟨u, q, h2⟩ := h2.out
  refine SimA.mk (pa_cons p q hs) (fun w d σ Q s e h => ?_)
  refine h1 w d σ _ s e ((Pst.of_bind h).mono (fun x S1 k1 w1 v1 eS st s1 r1 => ?_) fun _ _ q => q)
  subst eS
  refine h2 w1 d σ _ s1 (e.ext st.x s) ((Pst.of_bind k1).mono (fun us S2 k2 w2 vs eS2 st2 s2 r2 => ?_) fun _ _ q => q.up st)
  subst eS2
  exact k2 w2 (v1 :: vs) rfl (st.trans st2) s2 (.cons (r1.ext st2.x s1) r2)
def fTup (g : FA) : FE := fun d S => (g d S).bind fun us S1 => if us.length ≤ sizeLine then .ok (.tup us) S1 else .bad
theorem se_tup {es : List Expr} {g : FA} {k} (h : SimA X Wx es g) : SimE X Wx (.Tuple es k pos) (fTup g) := by
  obtain ⟨t, p, h⟩ := h.out
  refine SimE.mk (pe_tup p) (fun w d σ Q s e h0 => ?_)
  refine h w d σ _ s e ((Pst.of_bind h0).mono (fun us S1 h1 w1 vs eS st s1 rs => ?_) fun _ _ q => q)
  subst eS
  split at h1
  · rename_i hl
    refine ⟨by rw [← rs.length]; exact hl, fun p hp => ?_⟩
    have st1 := Stp.new s1 (o := .tup vs) hp
    exact h1 (w1.new p (.tup vs)) (.ref p) rfl (st.trans st1) (s1.new hp) (.tup (TqT.of upd_same) (rs.ext st1.x s1))
  · exact h1.elim
def aLst (g : FA) : FA := fun d S => (g d S).bind fun us S1 => if us.length ≤ sizeLine then .ok us S1 else .bad
theorem sl_lst {es : List Expr} {g : FA} (h : SimA X Wx es g) : SimL X Wx (.List es pos) (aLst g) := by
  obtain ⟨t, p, h⟩ := h.out
  refine SimL.mk (pe_lst p) (fun w d σ Q s e h0 => ?_)
  refine h w d σ _ s e ((Pst.of_bind h0).mono (fun us S1 h1 w1 vs eS st s1 rs => ?_) fun _ _ q => q)
  subst eS
  split at h1
  · rename_i hl
    exact ⟨by rw [← rs.length]; exact hl, fun p hp => h1 w1 p vs rfl st s1 rs hp⟩
  · exact h1.elim
def fVal (g : FA) : FE := fun d S => (g d S).bind fun us S1 => .ok (.lst us) S1
def fLoc (g : FA) : FE := fun d S => (g d S).bind fun us S1 => .ok (.loc S1.length) (S1 ++ [.lst us])
theorem SimL.val {e : Expr} {g : FA} (h : SimL X Wx e g) : SimE X Wx e (fVal g) := by
  obtain ⟨t, p, h⟩ := h.out
  refine SimE.mk (p) (fun w d σ Q s e h0 => ?_)
  refine h w d σ _ s e ((Pst.of_bind h0).mono (fun us S1 h1 w1 p xs eS st s1 rs hp => ?_) fun _ _ q => q)
  subst eS
  have st1 := Stp.new s1 (o := .lst xs) hp
  exact h1 (w1.new p (.lst xs)) (.ref p) rfl (st.trans st1) (s1.new hp) (.lst upd_same (fun q => s1.tracked q hp) (rs.ext st1.x s1))
theorem SimL.loc {e : Expr} {g : FA} (h : SimL X Wx e g) : SimE X Wx e (fLoc g) := by
  obtain ⟨t, p, h⟩ := h.out
  refine SimE.mk (p) (fun w d σ Q s e h0 => ?_)
  refine h w d σ _ s e ((Pst.of_bind h0).mono (fun us S1 h1 w1 p xs eS st s1 rs hp => ?_) fun _ _ q => q)
  subst eS
  have st1 := Stp.push s1 (o := .lst xs) (b := .lst us) hp
  refine h1 (w1.push p (.lst xs) (.lst us)) (.ref p) rfl (st.trans st1) (s1.push hp ⟨xs, upd_same, rs.ext st1.x s1⟩) (.loc ?_)
  show (w1.m ++ [p])[w1.S.length]? = some p
  rw [← s1.len]
  simp
def fIce (f : FE) : FE := fun d S => (f d S).bind fun u S1 => match u with
  | .loc n => match S1[n]? with
    | some (.lst us) => .ok (.lst us) (S1.set n .dead)
    | some (.dic ks us) => .ok (.dic ks us) (S1.set n .dead)
    | _ => .bad
  | _ => .bad
theorem se_ice {e : Expr} {f : FE} (h : SimE X Wx e f) : SimE X Wx e (fIce f) := by
  obtain ⟨t, p, h⟩ := h.out
  refine SimE.mk (p) (fun w d σ Q s e h0 => ?_)
  refine h w d σ _ s e ((Pst.of_bind h0).mono (fun u S1 h1 w1 v1 eS st s1 r1 => ?_) fun _ _ q => q)
  subst eS
  cases r1 with
  | @loc n a hm =>
    dsimp only at h1
    split at h1
    · rename_i us hS
      obtain ⟨xs, q, rs⟩ := s1.obj n a _ hm hS
      exact h1 (w1.ice n) (.ref a) rfl (st.trans (Stp.ice w1 n)) (s1.ice n) (.lst q (live_ice s1 hm hS (by intro z; cases z)) (rs.ext (Ext.ice w1 n) s1))
    · rename_i ks us hS
      obtain ⟨xs, q, l, rs⟩ := s1.obj n a _ hm hS
      exact h1 (w1.ice n) (.ref a) rfl (st.trans (Stp.ice w1 n)) (s1.ice n) (.dic q (live_ice s1 hm hS (by intro z; cases z)) l (rs.ext (Ext.ice w1 n) s1))
    · exact h1.elim
  | _ => exact h1.elim
end
end DL
namespace DL
open PySem PySem.Spec L2
def listM (u : U) (S : Sto) : Option (List U) := match u with
  | .lst us => some us
  | .loc n => match S[n]? with
    | some (.lst us) => some us
    | _ => none
  | _ => none
def listOf (u : U) (S : Sto) : Option (List U) := match u with
  | .frz us => some us
  | u => listM u S
def dictOf (u : U) (S : Sto) : Option (List Key × List U) := match u with
  | .dic ks us => some (ks, us)
  | .loc n => match S[n]? with
    | some (.dic ks us) => some (ks, us)
    | _ => none
  | _ => none
def keyU : U → Option Key
  | .int i => some (.inl i)
  | .str x => some (.inr x)
  | _ => none
def valU : List Key → List U → Key → Option U
  | k :: ks, u :: us, j => if k = j then some u else valU ks us j
  | _, _, _ => none
section
variable {K : KM} {w : Wd}
theorem listM_ok {u : U} {v : V} {us : List U} (s : SR K w) (r : VR K w u v) (h : listM u w.S = some us) : ∃ a xs, v = .ref a ∧ w.H a = some (.lst xs) ∧ VRs K w us xs := by
  cases r with
  | lst hq n rs => cases h; exact ⟨_, _, rfl, hq, rs⟩
  | @loc n a hm =>
    unfold listM at h
    dsimp only at h
    split at h
    · rename_i us' hS
      cases h
      obtain ⟨xs, q, rs⟩ := s.obj n a _ hm hS
      exact ⟨a, xs, rfl, q, rs⟩
    · cases h
  | _ => cases h
theorem listOf_ok {u : U} {v : V} {us : List U} (s : SR K w) (r : VR K w u v) (h : listOf u w.S = some us) : ∃ a xs, v = .ref a ∧ SqL K w.H a xs ∧ VRs K w us xs := by
  cases r with
  | frz hq rs => cases h; exact ⟨_, _, rfl, hq.sq, rs⟩
  | lst hq n rs => cases h; exact ⟨_, _, rfl, SqL.of hq, rs⟩
  | loc hm =>
    obtain ⟨a, xs, e, q, rs⟩ := listM_ok s (.loc hm) h
    exact ⟨a, xs, e, SqL.of q, rs⟩
  | _ => cases h
theorem dictOf_ok {u : U} {v : V} {ks : List Key} {us : List U} (s : SR K w) (r : VR K w u v) (h : dictOf u w.S = some (ks, us)) : ∃ a xs, v = .ref a ∧ w.H a = some (.dK (ks.zip xs)) ∧ ks.length = us.length ∧ VRs K w us xs := by
  cases r with
  | dic hq n l rs => cases h; exact ⟨_, _, rfl, hq, l, rs⟩
  | @loc n a hm =>
    unfold dictOf at h
    dsimp only at h
    split at h
    · rename_i ks' us' hS
      cases h
      obtain ⟨xs, q, l, rs⟩ := s.obj n a _ hm hS
      exact ⟨a, xs, rfl, q, l, rs⟩
    · cases h
  | _ => cases h
theorem keyU_ok {u : U} {v : V} {k : Key} (r : VR K w u v) (h : keyU u = some k) : v = kV k := by
  cases r with
  | int i => cases h; rfl
  | str x => cases h; rfl
  | _ => cases h
theorem valU_ok : ∀ {ks : List Key} {us : List U} {xs : List V} (k : Key), VRs K w us xs → (valU ks us k = none → valV (ks.zip xs) k = none) ∧ ∀ u, valU ks us k = some u → ∃ v, valV (ks.zip xs) k = some v ∧ VR K w u v
  | [], us, xs, k, r => ⟨fun _ => by rw [List.zip_nil_left]; exact valV_nil, fun u h => by unfold valU at h; cases h⟩
  | k' :: ks, _, _, k, .nil => ⟨fun _ => by rw [List.zip_nil_right]; exact valV_nil, fun u h => by unfold valU at h; cases h⟩
  | k' :: ks, u :: us, x :: xs, k, .cons r rs => by
    rw [List.zip_cons_cons]
    by_cases e : k' = k
    · refine ⟨fun h => ?_, fun y h => ?_⟩
      · unfold valU at h; rw [if_pos e] at h; cases h
      · unfold valU at h; rw [if_pos e] at h; cases h; exact ⟨x, valV_pos e, r⟩
    · rw [valV_neg e]
      unfold valU
      rw [if_neg e]
      exact valU_ok k rs
theorem valU_rel {ks : List Key} {us : List U} {xs : List V} (k : Key) (r : VRs K w us xs) : (valU ks us k).isSome = (valV (ks.zip xs) k).isSome := by
  obtain ⟨h1, h2⟩ := valU_ok (ks := ks) k r
  cases h : valU ks us k with
  | none => rw [h1 h]; rfl
  | some u => obtain ⟨v, e, _⟩ := h2 u h; rw [e]; rfl
end
mutual
def toD : U → Option PyData
  | .non => some .none
  | .bl b => some (.bool b)
  | .int i => some (.int i)
  | .str x => some (.str x)
  | .tup us => (toDs us).map .tuple
  | .lst us => (toDs us).map .list
  | .frz us => (toDs us).map .list
  | .dic _ _ => none
  | .loc _ => none
  | .ty _ => none
  | .exc _ _ _ => none
  | .cl _ => none
def toDs : List U → Option (List PyData)
  | [] => some []
  | u :: us => match toD u, toDs us with
    | some d, some ds => some (d :: ds)
    | _, _ => none
end
section
variable {K : KM} {w : Wd}
mutual
theorem toD_ok : ∀ {u : U} {v : V} {d : PyData}, VR K w u v → toD u = some d → Dp K w.H v d
  | _, _, _, .non, h => by unfold toD at h; cases h; exact .non
  | _, _, _, .bl b, h => by unfold toD at h; cases h; exact .bl b
  | _, _, _, .int i, h => by unfold toD at h; cases h; exact .int i
  | _, _, _, .str x, h => by unfold toD at h; cases h; exact .str x
  | _, _, _, .tup (us := us) hq rs, h => by
    unfold toD at h
    cases e : toDs us with
    | none => rw [e] at h; cases h
    | some ds => rw [e] at h; cases h; exact .tup hq.sq (toDs_ok rs e)
  | _, _, _, .lst (us := us) hq _ rs, h => by
    unfold toD at h
    cases e : toDs us with
    | none => rw [e] at h; cases h
    | some ds => rw [e] at h; cases h; exact .lst (SqL.of hq) (toDs_ok rs e)
  | _, _, _, .frz (us := us) hq rs, h => by
    unfold toD at h
    cases e : toDs us with
    | none => rw [e] at h; cases h
    | some ds => rw [e] at h; cases h; exact .lst hq.sq (toDs_ok rs e)
  | _, _, _, .dic _ _ _ _, h => by unfold toD at h; cases h
  | _, _, _, .loc _, h => by unfold toD at h; cases h
  | _, _, _, .ty _, h => by unfold toD at h; cases h
  | _, _, _, .exc _ _ _ _, h => by unfold toD at h; cases h
  | _, _, _, .cl _, h => by unfold toD at h; cases h
theorem toDs_ok : ∀ {us : List U} {vs : List V} {ds : List PyData}, VRs K w us vs → toDs us = some ds → DpAll K w.H vs ds
  | _, _, _, .nil, h => by unfold toDs at h; cases h; exact .nil
  | _, _, _, .cons (u := u) (us := us) r rs, h => by
    unfold toDs at h
    split at h
    · rename_i d ds e1 e2
      cases h
      exact .cons (toD_ok r e1) (toDs_ok rs e2)
    · cases h
end
def toDS (u : U) (S : Sto) : Option PyData := match u with
  | .loc n => match S[n]? with
    | some (.lst us) => (toDs us).map .list
    | _ => none
  | u => toD u
theorem toDS_ok {u : U} {v : V} {d : PyData} (s : SR K w) (r : VR K w u v) (h : toDS u w.S = some d) : Dp K w.H v d := by
  by_cases hl : ∃ n, u = .loc n
  · obtain ⟨n, rfl⟩ := hl
    cases r with
    | @loc _ a hm =>
      unfold toDS at h
      dsimp only at h
      split at h
      · rename_i us hS
        obtain ⟨xs, q, rs⟩ := s.obj n a _ hm hS
        cases e : toDs us with
        | none => rw [e] at h; cases h
        | some ds => rw [e] at h; cases h; exact .lst (SqL.of q) (toDs_ok rs e)
      · cases h
  · refine toD_ok r ?_
    unfold toDS at h
    split at h
    · exact absurd ⟨_, rfl⟩ hl
    · exact h
end
abbrev bI (b : Bool) : Int := if b then 1 else 0
def guard {α : Type} (c : Bool) (r : R α) : R α := if c then r else .bad
def addU (x y : U) (S : Sto) : R U := match x, y with
  | .int i, .int j => .ok (.int (i + j)) S
  | .int i, .bl b => .ok (.int (i + bI b)) S
  | .str a, .str b => guard (decide (a.length + b.length ≤ sizeLine)) (.ok (.str (a ++ b)) S)
  | .tup a, .tup b => guard (decide (a.length + b.length ≤ sizeLine)) (.ok (.tup (a ++ b)) S)
  | x, y => match listM x S, listM y S with
    | some a, some b => guard (decide (a.length + b.length ≤ sizeLine)) (.ok (.lst (a ++ b)) S)
    | _, _ => .bad
def subU (x y : U) (S : Sto) : R U := match x, y with
  | .int i, .int j => .ok (.int (i - j)) S
  | _, _ => .bad
def mulOk (i j : Int) : Bool := decide ((Builtin.Int.intBits i : Int) + (Builtin.Int.intBits j : Int) ≤ 134217728)
def mulU (x y : U) (S : Sto) : R U := match x, y with
  | .int i, .int j => guard (mulOk i j) (.ok (.int (i * j)) S)
  | x, .int k => match listM x S with
    | some a => guard (decide (-(2 ^ 63) ≤ k) && decide (k < 2 ^ 63) && decide (a.length * k.toNat ≤ sizeLine)) (.ok (.lst (List.replicate k.toNat a).flatten) S)
    | none => .bad
  | _, _ => .bad
def fdivU (x y : U) (S : Sto) : R U := match x, y with
  | .int i, .int j => guard (decide (0 < j) && decide (j.natAbs.log2 < 9000)) (.ok (.int (i / j)) S)
  | _, _ => .bad
def modU (x y : U) (S : Sto) : R U := match x, y with
  | .int i, .int j => guard (decide (0 < j)) (.ok (.int (i % j)) S)
  | _, _ => .bad
def powU (x y : U) (S : Sto) : R U := match x, y with
  | .int i, .int j => guard (decide (0 ≤ j) && decide (j ≤ 1000000) && decide (i.natAbs < 2 ^ 64)) (.ok (.int (i ^ j.toNat)) S)
  | _, _ => .bad
section
variable {X : Cx}
theorem guard_post {α : Type} {c : Bool} {r : R α} {P : α → Sto → Prop} {E : Exc → Sto → Prop} (h : Pst (guard c r) P E) : c = true ∧ Pst r P E := by
  unfold guard at h
  cases c with
  | true => exact ⟨rfl, h⟩
  | false => exact h.elim
theorem noX_guard {c : Bool} {r : R U} (h : noX r) : noX (guard c r) := by
  unfold guard; cases c with
  | true => exact h
  | false => trivial
theorem noX_add (x y : U) (S : Sto) : noX (addU x y S) := by
  unfold addU
  split <;> first | trivial | exact noX_guard trivial | (split <;> first | trivial | exact noX_guard trivial)
theorem noX_sub (x y : U) (S : Sto) : noX (subU x y S) := by
  unfold subU; split <;> trivial
theorem noX_mul (x y : U) (S : Sto) : noX (mulU x y S) := by
  unfold mulU
  split <;> first | trivial | exact noX_guard trivial | (split <;> first | trivial | exact noX_guard trivial)
theorem noX_fdiv (x y : U) (S : Sto) : noX (fdivU x y S) := by
  unfold fdivU; split <;> first | trivial | exact noX_guard trivial
theorem noX_mod (x y : U) (S : Sto) : noX (modU x y S) := by
  unfold modU; split <;> first | trivial | exact noX_guard trivial
theorem noX_pow (x y : U) (S : Sto) : noX (powU x y S) := by
  unfold powU; split <;> first | trivial | exact noX_guard trivial
theorem os_add : OpSim X (binaryOp .Add) addU := by
  refine ⟨_, op_add.or (op_add_ib.or (op_add_str.or (op_cat.or op_catA))), fun w x y v v' Q s rx ry h => ?_⟩
  have lists : ∀ {x y : U} {v v' : V}, VR (KMof X) w x v → VR (KMof X) w y v' → Pst (match listM x w.S, listM y w.S with
    | some a, some b => guard (decide (a.length + b.length ≤ sizeLine)) (.ok (.lst (a ++ b)) w.S)
    | _, _ => .bad) (OkE X w Q) (fun _ _ => False) → rCat v v' w.H Q := fun {x y v v'} rx ry h => by
    split at h
    · rename_i a b h1 h2
      obtain ⟨hl, h⟩ := guard_post h
      obtain ⟨p, xs, rfl, q, rs⟩ := listM_ok s rx h1
      obtain ⟨p', xs', rfl, q', rs'⟩ := listM_ok s ry h2
      refine ⟨p, p', xs, xs', rfl, rfl, q, q', by rw [← rs.length, ← rs'.length]; exact of_decide_eq_true hl, fun z hz => ?_⟩
      have st := Stp.new s (o := .lst (xs ++ xs')) hz
      exact h (w.new z _) (.ref z) rfl st (s.new hz) (.lst upd_same (fun q => s.tracked q hz) ((rs.append rs').ext st.x s))
    · exact h.elim
  unfold addU at h
  split at h
  · cases rx; cases ry; exact .inl ⟨_, _, rfl, rfl, OkE.here h s (.int _)⟩
  · cases rx; cases ry; exact .inr (.inl ⟨_, _, rfl, rfl, OkE.here h s (.int _)⟩)
  · obtain ⟨hl, h⟩ := guard_post h
    cases rx; cases ry; exact .inr (.inr (.inl ⟨_, _, rfl, rfl, of_decide_eq_true hl, OkE.here h s (.str _)⟩))
  · rename_i a b
    obtain ⟨hl, h⟩ := guard_post h
    cases rx with
    | @tup p xs _ hq rs =>
      cases ry with
      | @tup p' xs' _ hq' rs' =>
        refine .inr (.inr (.inr (.inr ⟨p, p', xs, xs', rfl, rfl, hq.sq, hq'.sq, by rw [← rs.length, ← rs'.length]; exact of_decide_eq_true hl, fun e => ?_, fun _ e => ?_, fun _ _ z hz => ?_⟩)))
        · subst e
          cases rs
          exact OkE.here h s (.tup hq' rs')
        · subst e
          cases rs'
          rw [List.append_nil] at h
          exact OkE.here h s (.tup hq rs)
        · have st := Stp.new s (o := .tup (xs ++ xs')) hz
          exact h (w.new z _) (.ref z) rfl st (s.new hz) (.tup (TqT.of upd_same) ((rs.append rs').ext st.x s))
  · exact .inr (.inr (.inr (.inl (lists rx ry h))))
theorem os_sub : OpSim X (binaryOp .Sub) subU := by
  refine ⟨_, op_sub, fun w x y v v' Q s rx ry h => ?_⟩
  unfold subU at h
  split at h
  · cases rx; cases ry; exact ⟨_, _, rfl, rfl, OkE.here h s (.int _)⟩
  · exact h.elim
theorem os_mul : OpSim X (binaryOp .Mult) mulU := by
  refine ⟨_, op_mulX.or op_rep, fun w x y v v' Q s rx ry h => ?_⟩
  unfold mulU at h
  split at h
  · obtain ⟨hl, h⟩ := guard_post h
    cases rx; cases ry; exact .inl ⟨_, _, rfl, rfl, show (_ : Int) ≤ _ from of_decide_eq_true hl, OkE.here h s (.int _)⟩
  · rename_i k _
    split at h
    · rename_i a h1
      obtain ⟨hl, h⟩ := guard_post h
      simp only [Bool.and_eq_true, decide_eq_true_eq] at hl
      obtain ⟨⟨l1, l2⟩, l3⟩ := hl
      obtain ⟨p, xs, rfl, q, rs⟩ := listM_ok s rx h1
      cases ry
      refine .inr ⟨p, k, xs, rfl, rfl, q, l1, l2, by rw [← rs.length]; exact l3, fun z hz => ?_⟩
      have st := Stp.new s (o := .lst (List.replicate k.toNat xs).flatten) hz
      have rep : ∀ n : Nat, VRs (KMof X) w (List.replicate n a).flatten (List.replicate n xs).flatten := fun n => by
        induction n with
        | zero => exact .nil
        | succ n ih => rw [List.replicate_succ, List.replicate_succ, List.flatten_cons, List.flatten_cons]; exact rs.append ih
      exact h (w.new z _) (.ref z) rfl st (s.new hz) (.lst upd_same (fun q => s.tracked q hz) ((rep k.toNat).ext st.x s))
    · exact h.elim
  · exact h.elim
theorem os_fdiv : OpSim X (binaryOp .FloorDiv) fdivU := by
  refine ⟨_, op_fdivW, fun w x y v v' Q s rx ry h => ?_⟩
  unfold fdivU at h
  split at h
  · obtain ⟨hl, h⟩ := guard_post h
    simp only [Bool.and_eq_true, decide_eq_true_eq] at hl
    cases rx; cases ry; exact ⟨_, _, rfl, rfl, hl, OkE.here h s (.int _)⟩
  · exact h.elim
theorem os_mod : OpSim X (binaryOp .Mod) modU := by
  refine ⟨_, op_mod, fun w x y v v' Q s rx ry h => ?_⟩
  unfold modU at h
  split at h
  · obtain ⟨hl, h⟩ := guard_post h
    cases rx; cases ry; exact ⟨_, _, rfl, rfl, of_decide_eq_true hl, OkE.here h s (.int _)⟩
  · exact h.elim
theorem os_pow : OpSim X (binaryOp .Pow) powU := by
  refine ⟨_, op_pow, fun w x y v v' Q s rx ry h => ?_⟩
  unfold powU at h
  split at h
  · obtain ⟨hl, h⟩ := guard_post h
    simp only [Bool.and_eq_true, decide_eq_true_eq] at hl
    cases rx; cases ry; exact ⟨_, _, rfl, rfl, ⟨hl.1.1, hl.1.2, hl.2⟩, OkE.here h s (.int _)⟩
  · exact h.elim
def negU (x : U) (S : Sto) : R U := match x with
  | .int i => .ok (.int (-i)) S
  | _ => .bad
theorem us_neg : UnSim X (unaryOp .USub) negU := by
  refine ⟨_, un_neg, fun x S => by unfold negU; split <;> trivial, fun w x v Q s rx h => ?_⟩
  unfold negU at h
  split at h
  · cases rx; exact ⟨_, rfl, OkE.here h s (.int _)⟩
  · exact h.elim
def flatU : U → Bool
  | .non => true
  | .bl _ => true
  | .int _ => true
  | .str _ => true
  | _ => false
def eqF : U → U → Bool
  | .non, .non => true
  | .bl a, .bl b => a == b
  | .bl a, .int j => bI a == j
  | .int i, .bl b => i == bI b
  | .int i, .int j => i == j
  | .str x, .str y => x == y
  | _, _ => false
def scalU : U → U → Bool
  | .bl _, .int _ => false
  | .int _, .bl _ => false
  | x, y => flatU x && flatU y
theorem scal_ok {w : Wd} {x y : U} {v v' : V} (r : VR (KMof X) w x v) (r' : VR (KMof X) w y v') (h : scalU x y = true) : scal v v' = true ∧ decide (v = v') = eqF x y := by
  cases r <;> cases r' <;> first
    | (exfalso; exact Bool.noConfusion h)
    | exact ⟨rfl, rfl⟩
    | exact ⟨rfl, decide_eq_false fun z => nomatch z⟩
    | exact ⟨rfl, decide_eq_true rfl⟩
    | exact ⟨rfl, dec_int⟩
    | exact ⟨rfl, dec_bl⟩
    | exact ⟨rfl, dec_str⟩
def eqOk (x y : U) (S : Sto) (g : Bool → Bool) : R U := if scalU x y then .ok (.bl (g (eqF x y))) S else match toDS x S, toDS y S with
  | some a, some b => guard (SeqAt.shaped a && SeqAt.shaped b) (.ok (.bl (g (PyData.eqv a b))) S)
  | _, _ => .bad
def eqU (x y : U) (S : Sto) : R U := eqOk x y S id
def neU (x y : U) (S : Sto) : R U := eqOk x y S not
theorem noX_eqOk (x y : U) (S : Sto) (g : Bool → Bool) : noX (eqOk x y S g) := by
  unfold eqOk
  split
  · trivial
  · split <;> first | trivial | exact noX_guard trivial
theorem noX_eq (x y : U) (S : Sto) : noX (eqU x y S) := noX_eqOk x y S id
theorem noX_ne (x y : U) (S : Sto) : noX (neU x y S) := noX_eqOk x y S not
theorem os_eq (hu : X.A.units + 64 < cLine) : OpSim X (compareOp .Eq) eqU := by
  refine ⟨_, op_eq.or (op_eqD hu), fun w x y v v' Q s rx ry h => ?_⟩
  unfold eqU eqOk at h
  split at h
  · rename_i hs
    obtain ⟨h1, h2⟩ := scal_ok rx ry hs
    exact .inl ⟨h1, by rw [h2]; exact OkE.here h s (.bl _)⟩
  · split at h
    · rename_i a b h1 h2
      obtain ⟨hl, h⟩ := guard_post h
      simp only [Bool.and_eq_true] at hl
      exact .inr ⟨a, b, toDS_ok s rx h1, toDS_ok s ry h2, hl.1, hl.2, OkE.here h s (.bl _)⟩
    · exact h.elim
theorem os_ne (hu : X.A.units + 64 < cLine) : OpSim X (compareOp .NotEq) neU := by
  refine ⟨_, op_ne.or (op_neD hu), fun w x y v v' Q s rx ry h => ?_⟩
  unfold neU eqOk at h
  split at h
  · rename_i hs
    obtain ⟨h1, h2⟩ := scal_ok rx ry hs
    exact .inl ⟨h1, by rw [h2]; exact OkE.here h s (.bl _)⟩
  · split at h
    · rename_i a b h1 h2
      obtain ⟨hl, h⟩ := guard_post h
      simp only [Bool.and_eq_true] at hl
      exact .inr ⟨a, b, toDS_ok s rx h1, toDS_ok s ry h2, hl.1, hl.2, OkE.here h s (.bl _)⟩
    · exact h.elim
def ltU (x y : U) (S : Sto) : R U := match x, y with
  | .int i, .int j => .ok (.bl (decide (i < j))) S
  | .str a, .str b => .ok (.bl (decide (a.cps.toList < b.cps.toList))) S
  | _, _ => .bad
def leU (x y : U) (S : Sto) : R U := match x, y with
  | .int i, .int j => .ok (.bl (decide (i ≤ j))) S
  | _, _ => .bad
def gtU (x y : U) (S : Sto) : R U := match x, y with
  | .int i, .int j => .ok (.bl (decide (j < i))) S
  | _, _ => .bad
def geU (x y : U) (S : Sto) : R U := match x, y with
  | .int i, .int j => .ok (.bl (decide (j ≤ i))) S
  | _, _ => .bad
theorem noX_lt (x y : U) (S : Sto) : noX (ltU x y S) := by unfold ltU; split <;> trivial
theorem noX_le (x y : U) (S : Sto) : noX (leU x y S) := by unfold leU; split <;> trivial
theorem noX_gt (x y : U) (S : Sto) : noX (gtU x y S) := by unfold gtU; split <;> trivial
theorem noX_ge (x y : U) (S : Sto) : noX (geU x y S) := by unfold geU; split <;> trivial
theorem os_lt : OpSim X (compareOp .Lt) ltU := by
  refine ⟨_, op_lt.or op_lt_str, fun w x y v v' Q s rx ry h => ?_⟩
  unfold ltU at h
  split at h
  · cases rx; cases ry; exact .inl ⟨_, _, rfl, rfl, OkE.here h s (.bl _)⟩
  · cases rx; cases ry; exact .inr ⟨_, _, rfl, rfl, OkE.here h s (.bl _)⟩
  · exact h.elim
theorem os_le : OpSim X (compareOp .LtE) leU := by
  refine ⟨_, op_le, fun w x y v v' Q s rx ry h => ?_⟩
  unfold leU at h
  split at h
  · cases rx; cases ry; exact ⟨_, _, rfl, rfl, OkE.here h s (.bl _)⟩
  · exact h.elim
theorem os_gt : OpSim X (compareOp .Gt) gtU := by
  refine ⟨_, op_gt, fun w x y v v' Q s rx ry h => ?_⟩
  unfold gtU at h
  split at h
  · cases rx; cases ry; exact ⟨_, _, rfl, rfl, OkE.here h s (.bl _)⟩
  · exact h.elim
theorem os_ge : OpSim X (compareOp .GtE) geU := by
  refine ⟨_, op_ge, fun w x y v v' Q s rx ry h => ?_⟩
  unfold geU at h
  split at h
  · cases rx; cases ry; exact ⟨_, _, rfl, rfl, OkE.here h s (.bl _)⟩
  · exact h.elim
def isNon : U → Bool
  | .non => true
  | _ => false
def isU (x y : U) (S : Sto) : R U := match y with
  | .non => .ok (.bl (isNon x)) S
  | _ => .bad
def isnU (x y : U) (S : Sto) : R U := match y with
  | .non => .ok (.bl (!isNon x)) S
  | _ => .bad
theorem noX_is (x y : U) (S : Sto) : noX (isU x y S) := by unfold isU; split <;> trivial
theorem isNon_ok {w : Wd} {x : U} {v : V} (r : VR (KMof X) w x v) : decide (v = .non) = isNon x := by
  cases r <;> first | rfl | exact decide_eq_false (fun z => nomatch z)
theorem os_is : OpSim X (compareOp .Is) isU := by
  refine ⟨_, op_isN, fun w x y v v' Q s rx ry h => ?_⟩
  unfold isU at h
  split at h
  · cases ry; exact ⟨rfl, by rw [isNon_ok rx]; exact OkE.here h s (.bl _)⟩
  · exact h.elim
def inStr (a b : Str) : Bool := match a.cps.toList with
  | [c] => decide (c ∈ b.cps.toList)
  | _ => !(Builtin.Str.occurrences b a 0 b.length 1).isEmpty
def flatL (x y : U) (S : Sto) : Option Bool := match listOf y S with
  | some us => if flatU x && us.all flatU then some (us.any fun z => eqF z x) else none
  | none => none
def inB (x y : U) (S : Sto) : Option Bool := match y with
  | .str b => match x with
    | .str a => some (inStr a b)
    | _ => none
  | .tup us => if flatU x && us.all flatU then some (us.any fun z => eqF z x) else none
  | y => match dictOf y S, keyU x with
    | some (ks, us), some k => some (valU ks us k).isSome
    | _, _ => match flatL x y S with
      | some b => some b
      | none => match toDS x S, toDS y S with
        | some d, some (.list ds) => if SeqAt.shaped d && SeqAt.shaped (.list ds) then some (ds.any fun z => PyData.eqv z d) else none
        | _, _ => none
def inU (x y : U) (S : Sto) : R U := match inB x y S with
  | some b => .ok (.bl b) S
  | none => .bad
def ninU (x y : U) (S : Sto) : R U := match inB x y S with
  | some b => .ok (.bl (!b)) S
  | none => .bad
theorem noX_in (x y : U) (S : Sto) : noX (inU x y S) := by unfold inU; split <;> trivial
theorem noX_nin (x y : U) (S : Sto) : noX (ninU x y S) := by unfold ninU; split <;> trivial
end
end DL
namespace DL
open PySem PySem.Spec L2
section
variable {X : Cx} {Wx : WX}
theorem op_in_dict (hu : X.A.units + 1 < cLine) : OpR X (compareOp .In) (fun y x H Q => ∃ a o, x = .ref a ∧ DGet H a y o ∧ Q (.bl o.isSome) H) := by
  intro pins s σ H x y v u Q I rx ry h
  obtain ⟨a, o, rfl, g, q⟩ := h
  cases ry
  exact d_in hu I g rx fun s' I' => ⟨.bl o.isSome, H, I', rfl, q⟩
theorem op_nin_dict (hu : X.A.units + 1 < cLine) : OpR X (compareOp .NotIn) (fun y x H Q => ∃ a o, x = .ref a ∧ DGet H a y o ∧ Q (.bl (!o.isSome)) H) := by
  intro pins s σ H x y v u Q I rx ry h
  obtain ⟨a, o, rfl, g, q⟩ := h
  cases ry
  exact d_notIn hu I g rx fun s' I' => ⟨.bl (!o.isSome), H, I', rfl, q⟩
theorem flat_ok {K : KM} {w : Wd} {u : U} {v : V} (r : VR K w u v) (h : flatU u = true) : flatV v = true := by
  cases r <;> first | rfl | cases h
theorem flats_ok {K : KM} {w : Wd} : ∀ {us : List U} {vs : List V}, VRs K w us vs → us.all flatU = true → vs.all flatV = true
  | _, _, .nil, _ => rfl
  | _, _, .cons r rs, h => by
    rw [List.all_cons, Bool.and_eq_true] at h
    rw [List.all_cons, flat_ok r h.1, flats_ok rs h.2]; rfl
theorem eqF_ok {K : KM} {w : Wd} {x y : U} {v v' : V} (r : VR K w x v) (r' : VR K w y v') (h : flatU x = true) (h' : flatU y = true) : eqV v v' = eqF x y := by
  cases r <;> first | (exfalso; exact Bool.noConfusion h) | (cases r' <;> first | (exfalso; exact Bool.noConfusion h') | rfl)
theorem anyF_ok {K : KM} {w : Wd} {y : U} {v' : V} (r' : VR K w y v') (h' : flatU y = true) : ∀ {us : List U} {vs : List V}, VRs K w us vs → us.all flatU = true → inV v' vs = us.any fun z => eqF z y
  | _, _, .nil, _ => rfl
  | _, _, .cons r rs, h => by
    rw [List.all_cons, Bool.and_eq_true] at h
    unfold inV
    rw [List.any_cons, List.any_cons, eqF_ok r r' h.1 h', ← anyF_ok r' h' rs h.2]
    rfl
theorem inStr_one {a b : Str} {c : Nat} (h : a.cps.toList = [c]) : a = ⟨#[c]⟩ ∧ inStr a b = decide (c ∈ b.cps.toList) := by
  refine ⟨?_, ?_⟩
  · cases a with
    | mk l => cases l with
      | mk l => cases h; rfl
  · unfold inStr; rw [h]
theorem inB_cases {w : Wd} {x y : U} {v v' : V} {b : Bool} (s : SR (KMof X) w) (rx : VR (KMof X) w x v) (ry : VR (KMof X) w y v') (h : inB x y w.S = some b) :
    (∃ c z, v = .str ⟨#[c]⟩ ∧ v' = .str z ∧ b = decide (c ∈ z.cps.toList)) ∨ (∃ i j, v = .str i ∧ v' = .str j ∧ b = !(Builtin.Str.occurrences j i 0 j.length 1).isEmpty) ∨
    (∃ p xs, v' = .ref p ∧ (SqL X.K w.H p xs ∨ SqT X.K w.H p xs) ∧ flatV v = true ∧ xs.all flatV = true ∧ b = inV v xs) ∨
    (∃ d ds, Dp X.K w.H v d ∧ Dp X.K w.H v' (.list ds) ∧ SeqAt.shaped d = true ∧ SeqAt.shaped (.list ds) = true ∧ b = ds.any fun z => PyData.eqv z d) ∨
    (∃ a o, v' = .ref a ∧ DGet w.H a v o ∧ b = o.isSome) := by
  unfold inB at h
  split at h
  · rename_i z
    split at h
    · rename_i i
      cases h
      cases rx; cases ry
      unfold inStr
      split
      · rename_i c hc
        exact .inl ⟨c, z, by rw [(inStr_one (b := z) hc).1], rfl, rfl⟩
      · exact .inr (.inl ⟨i, z, rfl, rfl, rfl⟩)
    · cases h
  · rename_i us
    split at h
    · rename_i hf
      cases h
      rw [Bool.and_eq_true] at hf
      cases ry with
      | tup hq rs => exact .inr (.inr (.inl ⟨_, _, rfl, .inr hq.sq, flat_ok rx hf.1, flats_ok rs hf.2, (anyF_ok rx hf.1 rs hf.2).symm⟩))
    · cases h
  · split at h
    · rename_i ks us k h1 h2
      cases h
      obtain ⟨a, xs, rfl, q, l, rs⟩ := dictOf_ok s ry h1
      rw [keyU_ok rx h2]
      exact .inr (.inr (.inr (.inr ⟨a, _, rfl, DGet.k q, valU_rel k rs⟩)))
    · split at h
      · rename_i b0 hb0
        cases h
        unfold flatL at hb0
        split at hb0
        · rename_i us hl
          split at hb0
          · rename_i hf
            cases hb0
            rw [Bool.and_eq_true] at hf
            obtain ⟨a, xs, rfl, hq, rs⟩ := listOf_ok s ry hl
            exact .inr (.inr (.inl ⟨_, _, rfl, .inl hq, flat_ok rx hf.1, flats_ok rs hf.2, (anyF_ok rx hf.1 rs hf.2).symm⟩))
          · cases hb0
        · cases hb0
      · split at h
        · rename_i d ds h1 h2
          split at h
          · rename_i hs
            cases h
            rw [Bool.and_eq_true] at hs
            exact .inr (.inr (.inr (.inl ⟨d, ds, toDS_ok s rx h1, toDS_ok s ry h2, hs.1, hs.2, rfl⟩)))
          · cases h
        · cases h
theorem os_in (hu : X.A.units + 66 < cLine) : OpSim X (compareOp .In) inU := by
  refine ⟨_, op_in_sign.or (op_in_str.or (op_in_seq.or ((op_inD (by omega)).or (op_in_dict (by omega))))), fun w x y v v' Q s rx ry h => ?_⟩
  unfold inU at h
  split at h
  · rename_i b hb
    have q := OkE.here h s (.bl b)
    rcases inB_cases s rx ry hb with ⟨c, z, rfl, rfl, e⟩ | ⟨i, j, rfl, rfl, e⟩ | ⟨p, xs, rfl, h1, h2, h3, e⟩ | ⟨d, ds, h1, h2, h3, h4, e⟩ | ⟨a, o, rfl, g, e⟩
    · exact .inl ⟨c, z, rfl, rfl, e ▸ q⟩
    · exact .inr (.inl ⟨i, j, rfl, rfl, e ▸ q⟩)
    · exact .inr (.inr (.inl ⟨p, xs, rfl, h1, h2, h3, e ▸ q⟩))
    · exact .inr (.inr (.inr (.inl ⟨d, ds, h1, h2, h3, h4, e ▸ q⟩)))
    · exact .inr (.inr (.inr (.inr ⟨a, o, rfl, g, e ▸ q⟩)))
  · exact h.elim
theorem os_nin (hu : X.A.units + 66 < cLine) : OpSim X (compareOp .NotIn) ninU := by
  refine ⟨_, op_notIn_sign.or (op_notin_str.or (op_notIn_seq.or ((op_notInD (by omega)).or (op_nin_dict (by omega))))), fun w x y v v' Q s rx ry h => ?_⟩
  unfold ninU at h
  split at h
  · rename_i b hb
    have q := OkE.here h s (.bl (!b))
    rcases inB_cases s rx ry hb with ⟨c, z, rfl, rfl, e⟩ | ⟨i, j, rfl, rfl, e⟩ | ⟨p, xs, rfl, h1, h2, h3, e⟩ | ⟨d, ds, h1, h2, h3, h4, e⟩ | ⟨a, o, rfl, g, e⟩
    · exact .inl ⟨c, z, rfl, rfl, e ▸ q⟩
    · exact .inr (.inl ⟨i, j, rfl, rfl, e ▸ q⟩)
    · exact .inr (.inr (.inl ⟨p, xs, rfl, h1, h2, h3, e ▸ q⟩))
    · exact .inr (.inr (.inr (.inl ⟨d, ds, h1, h2, h3, h4, e ▸ q⟩)))
    · exact .inr (.inr (.inr (.inr ⟨a, o, rfl, g, e ▸ q⟩)))
  · exact h.elim
def ixB (x y : U) (S : Sto) : Option U := match x, y with
  | .str z, .int i => if z.length ≤ sizeLine then (atI z.cps.toList i).map fun c => .str ⟨#[c]⟩ else none
  | .tup us, .int i => atI us i
  | x, y => match listOf x S with
    | some us => match y with
      | .int i => atI us i
      | _ => none
    | none => match dictOf x S, keyU y with
      | some (ks, us), some k => valU ks us k
      | _, _ => none
def oU (o : Option U) (S : Sto) : R U := match o with
  | some u => .ok u S
  | none => .bad
def ixU (x y : U) (S : Sto) : R U := oU (ixB x y S) S
theorem atI_rel {K : KM} {w : Wd} {us : List U} {xs : List V} {i : Int} {u : U} (r : VRs K w us xs) (h : atI us i = some u) : ∃ v, atI xs i = some v ∧ VR K w u v := by
  unfold atI at h ⊢
  rw [← r.length]
  cases q : ixN us.length i with
  | none => rw [q] at h; cases h
  | some j =>
    rw [q] at h
    exact r.get h
theorem ix_dict (hu : X.A.units + 1 < cLine) : IxR X (fun x y H Q => ∃ a v, x = .ref a ∧ DGet H a y (some v) ∧ Q v H) := by
  intro value slice pins s σ H x y v u Q I rx ry h hs
  obtain ⟨a, z, rfl, g, q⟩ := h
  cases rx
  exact PyProof.Rows.tail_any (dict_typeIs I g) slot_dict_getitem.lookup (d_getItem hu I g ry fun w' s' I' r' => ⟨z, H, I', r', q⟩) hs
theorem se_ix {a b : Expr} {fa fb : FE} {pos : Pos} (hu : X.A.units + 1 < cLine) (ha : SimE X Wx a fa) (hb : SimE X Wx b fb) (hs : PlainIx b := by intro _ _; rfl) : SimE X Wx (.Subscript a b pos) (f2 ixU fa fb) := by
  obtain ⟨ta, pa, ha⟩ := ha.out
  obtain ⟨tb, pb, hb⟩ := hb.out
  refine SimE.mk (pe_ix (ix_seq.or (ix_dict hu)) pa pb hs) (fun w d σ Q s e h => two (a := a) (b := b) (r := fun x y H Q => rIx X.K x y H Q ∨ ∃ a v, x = .ref a ∧ DGet H a y (some v) ∧ Q v H) ha hb (fun w x y v v' Q s rx ry h => ?_) (fun x y S => by unfold ixU oU; split <;> trivial) w d σ Q s e h)
  unfold ixU oU at h
  split at h
  · rename_i u hu'
    unfold ixB at hu'
    split at hu'
    · split at hu'
      · rename_i z i hl
        cases rx; cases ry
        cases q : atI z.cps.toList i with
        | none => rw [q] at hu'; cases hu'
        | some c => rw [q] at hu'; cases hu'; exact .inl (.inr (.inr ⟨z, i, c, rfl, rfl, hl, q, OkE.here h s (.str _)⟩))
      · cases hu'
    · cases rx with
      | tup hq rs =>
        cases ry
        obtain ⟨v, e1, e2⟩ := atI_rel rs hu'
        exact .inl (.inr (.inl ⟨_, _, _, v, rfl, rfl, hq.sq, e1, OkE.here h s e2⟩))
    · split at hu'
      · rename_i us hl
        split at hu'
        · obtain ⟨p, xs, rfl, q, rs⟩ := listOf_ok s rx hl
          cases ry
          obtain ⟨v, e1, e2⟩ := atI_rel rs hu'
          exact .inl (.inl ⟨_, _, _, v, rfl, rfl, q, e1, OkE.here h s e2⟩)
        · cases hu'
      · split at hu'
        · rename_i ks us k h1 h2
          obtain ⟨p, xs, rfl, q, l, rs⟩ := dictOf_ok s rx h1
          rw [keyU_ok ry h2]
          obtain ⟨v, e1, e2⟩ := (valU_ok (ks := ks) k rs).2 u hu'
          exact .inr ⟨p, v, rfl, by rw [← e1]; exact DGet.k q, OkE.here h s e2⟩
        · cases hu'
  · exact h.elim
def cutU (us : List U) (lo hi : Option Int) : List U := (us.drop (HT.sIx us.length 0 lo)).take (HT.sIx us.length us.length hi - HT.sIx us.length 0 lo)
theorem cut_rel {K : KM} {w : Wd} {us : List U} {xs : List V} (lo hi : Option Int) (r : VRs K w us xs) : VRs K w (cutU us lo hi) (cutV xs lo hi) := by
  unfold cutU cutV
  rw [← r.length]
  exact (r.drop _).take _
abbrev FO := En → Sto → R (Option Int)
def oNone : FO := fun _ S => .ok none S
def oSome (f : FE) : FO := fun d S => (f d S).bind fun u S1 => match u with
  | .int i => .ok (some i) S1
  | _ => .bad
def OkO (X : Cx) (w : Wd) (Q : Option Int → Hp → Prop) (o : Option Int) (S' : Sto) : Prop := ∀ (w' : Wd), w'.S = S' → Stp w w' → SR (KMof X) w' → Q o w'.H
theorem OkO.up {w w1 : Wd} {Q : Option Int → Hp → Prop} {u : Option Int} {S' : Sto} (h : OkO X w Q u S') (st : Stp w w1) : OkO X w1 Q u S' := fun w' e s2 sr => h w' e (st.trans s2) sr
def tO (X : Cx) (Wx : WX) (f : FO) : TO := fun σ H Q => ∃ (w : Wd) (d : En), w.H = H ∧ SR (KMof X) w ∧ ER (KMof X) w d σ ∧ Pst (f d w.S) (OkO X w Q) (XPost X Wx σ w)
def SimO (X : Cx) (Wx : WX) (e : Option Expr) (f : FO) : Prop := PO X e (tO X Wx f)
theorem SimO.out {e : Option Expr} {f : FO} (h : SimO X Wx e f) : ∃ t, PO X e t ∧ ∀ (w : Wd) (d : En) (σ : L2.St) (Q : Option Int → Hp → Prop), SR (KMof X) w → ER (KMof X) w d σ → Pst (f d w.S) (OkO X w Q) (XPost X Wx σ w) → t σ w.H Q := ⟨_, h, fun w d _ _ s e p => ⟨w, d, rfl, s, e, p⟩⟩
theorem SimO.mk {e : Option Expr} {f : FO} {t : TO} (p : PO X e t) (h : ∀ (w : Wd) (d : En) (σ : L2.St) (Q : Option Int → Hp → Prop), SR (KMof X) w → ER (KMof X) w d σ → Pst (f d w.S) (OkO X w Q) (XPost X Wx σ w) → t σ w.H Q) : SimO X Wx e f :=
  ⟨fun pins s σ H Q I ⟨w, d, e, sr, er, q⟩ => p.run pins s σ H Q I (by subst e; exact h w d σ Q sr er q)⟩
theorem so_none : SimO X Wx none oNone := SimO.mk (po_none) (fun w d σ Q s e h => h w rfl (Stp.refl w) s)
theorem so_some {e : Expr} {f : FE} (h : SimE X Wx e f) : SimO X Wx (some e) (oSome f) := by
  obtain ⟨t, p, h⟩ := h.out
  refine SimO.mk (po_some p) (fun w d σ Q s e h0 => ?_)
  refine h w d σ _ s e ((Pst.of_bind h0).mono (fun u S1 h1 w1 v1 eS st s1 r1 => ?_) fun _ _ q => q)
  cases r1 with
  | int i => exact ⟨i, rfl, h1 w1 eS st s1⟩
  | _ => exact h1.elim
def slB (x : U) (lo hi : Option Int) (S : Sto) : Option U := match x with
  | .str z => if z.length ≤ sizeLine then some (.str (cutS z lo hi)) else none
  | .tup us => some (.tup (cutU us lo hi))
  | x => (listOf x S).map fun us => .lst (cutU us lo hi)
def fSl (f : FE) (l h : FO) : FE := fun d S => (f d S).bind fun u S1 => (l d S1).bind fun lo S2 => (h d S2).bind fun hi S3 => oU (slB u lo hi S3) S3
theorem slice_parts {te : TE} {tl th : TO} {f : FE} {l hh : FO}
    (h1 : ∀ (w : Wd) (d : En) (σ : L2.St) (Q : VK), SR (KMof X) w → ER (KMof X) w d σ → Pst (f d w.S) (OkE X w Q) (XPost X Wx σ w) → te σ w.H Q)
    (h2 : ∀ (w : Wd) (d : En) (σ : L2.St) (Q : Option Int → Hp → Prop), SR (KMof X) w → ER (KMof X) w d σ → Pst (l d w.S) (OkO X w Q) (XPost X Wx σ w) → tl σ w.H Q)
    (h3 : ∀ (w : Wd) (d : En) (σ : L2.St) (Q : Option Int → Hp → Prop), SR (KMof X) w → ER (KMof X) w d σ → Pst (hh d w.S) (OkO X w Q) (XPost X Wx σ w) → th σ w.H Q)
    {α : Type} {k : U → Option Int → Option Int → Sto → R α} {P : α → Sto → Prop} {r : V → Option Int → Option Int → Hp → Prop} {w : Wd} {d : En} {σ : L2.St} (s : SR (KMof X) w) (e : ER (KMof X) w d σ)
    (hk : ∀ (w' : Wd) u v lo hi, Stp w w' → SR (KMof X) w' → VR (KMof X) w' u v → Pst (k u lo hi w'.S) P (XPost X Wx σ w) → r v lo hi w'.H)
    (h : Pst ((f d w.S).bind fun u S1 => (l d S1).bind fun lo S2 => (hh d S2).bind fun hi S3 => k u lo hi S3) P (XPost X Wx σ w)) :
    te σ w.H fun x H1 => tl σ H1 fun lo H2 => th σ H2 fun u H3 => r x lo u H3 := by
  refine h1 w d σ _ s e ((Pst.of_bind h).mono (fun x S1 g1 w1 v1 eS st s1 r1 => ?_) fun _ _ q => q)
  subst eS
  have e1 := e.ext st.x s
  refine h2 w1 d σ _ s1 e1 ((Pst.of_bind g1).mono (fun lo S2 g2 w2 eS st2 s2 => ?_) fun _ _ q => q.up st)
  subst eS
  have e2 := e1.ext st2.x s1
  refine h3 w2 d σ _ s2 e2 ((Pst.of_bind g2).mono (fun hi S3 g3 w3 eS st3 s3 => ?_) fun _ _ q => q.up (st.trans st2))
  subst eS
  exact hk w3 x v1 lo hi ((st.trans st2).trans st3) s3 ((r1.ext st2.x s1).ext st3.x s2) g3
theorem se_slice {e : Expr} {lo hi : Option Expr} {f : FE} {l h : FO} {p2 pos : Pos} (h1 : SimE X Wx e f) (h2 : SimO X Wx lo l) (h3 : SimO X Wx hi h) : SimE X Wx (.Subscript e (.Slice lo hi none p2) pos) (fSl f l h) := by
  obtain ⟨te, pe, h1⟩ := h1.out
  obtain ⟨tl, pl, h2⟩ := h2.out
  obtain ⟨th, ph, h3⟩ := h3.out
  refine SimE.mk (pe_slice (sl_str.or (sl_tupA.or sl_list)) pe pl ph) (fun w d σ Q s e h => slice_parts h1 h2 h3 s e (fun w' u v lo hi st s' r g => ?_) h)
  unfold oU at g
  split at g
  · rename_i z hz
    have g := OkE.up g st
    unfold slB at hz
    split at hz
    · split at hz
      · rename_i hl
        cases hz
        cases r
        exact .inl ⟨_, rfl, hl, OkE.here g s' (.str _)⟩
      · cases hz
    · cases hz
      cases r with
      | @tup p xs us hq rs =>
        refine .inr (.inl ⟨p, xs, rfl, hq.sq, fun q => ?_, fun q z hz => ?_⟩)
        · refine OkE.here g s' (.tup hq ?_)
          unfold cutU
          rw [rs.length, q.1, q.2, List.drop_zero, Nat.sub_zero, ← rs.length, List.take_length]
          exact rs
        · have st := Stp.new s' (o := .tup (cutV xs lo hi)) hz
          exact g (w'.new z _) (.ref z) rfl st (s'.new hz) (.tup (TqT.of upd_same) ((cut_rel lo hi rs).ext st.x s'))
    · rename_i x _ _
      cases q : listOf u w'.S with
      | none => rw [q] at hz; cases hz
      | some us =>
        rw [q] at hz
        cases hz
        obtain ⟨p, xs, rfl, hq, rs⟩ := listOf_ok s' r q
        refine .inr (.inr ⟨p, xs, rfl, hq, fun z hz => ?_⟩)
        have st := Stp.new s' (o := .lst (cutV xs lo hi)) hz
        exact g (w'.new z _) (.ref z) rfl st (s'.new hz) (.lst upd_same (fun q => s'.tracked q hz) ((cut_rel lo hi rs).ext st.x s'))
  · exact g.elim
def CallSim (X : Cx) (f : Value) (g : List U → Sto → R U) : Prop := ∃ r, CallR X f r ∧ (∀ us S, noX (g us S)) ∧
  ∀ (w : Wd) (us : List U) (vs : List V) (Q : VK), SR (KMof X) w → VRs (KMof X) w us vs → Pst (g us w.S) (OkE X w Q) (fun _ _ => False) → r vs w.H Q
def CallSimL (X : Cx) (f : Value) (g : List U → Sto → R (List U)) : Prop := ∃ r, CallR X f r ∧
  ∀ (w : Wd) (us : List U) (vs : List V) (Q : VK) (E : Exc → Sto → Prop), SR (KMof X) w → VRs (KMof X) w us vs → Pst (g us w.S) (OkL X w Q) E → r vs w.H Q
def fA {α : Type} (g : List U → Sto → R α) (fa : FA) : En → Sto → R α := fun d S => (fa d S).bind g
theorem cb_core {es : List Expr} {fa : FA} {ta : TA} {g : List U → Sto → R U} {r : List V → Hp → VK → Prop} (hn : ∀ us S, noX (g us S))
    (hg : ∀ (w : Wd) (us : List U) (vs : List V) (Q : VK), SR (KMof X) w → VRs (KMof X) w us vs → Pst (g us w.S) (OkE X w Q) (fun _ _ => False) → r vs w.H Q)
    (ha : ∀ (w : Wd) (d : En) (σ : L2.St) (Q : List V → Hp → Prop), SR (KMof X) w → ER (KMof X) w d σ → Pst (fa d w.S) (OkA X w Q) (XPost X Wx σ w) → ta σ w.H Q)
    (w : Wd) (d : En) (σ : L2.St) (Q : VK) (s : SR (KMof X) w) (e : ER (KMof X) w d σ) (h : Pst (fA g fa d w.S) (OkE X w Q) (XPost X Wx σ w)) : ta σ w.H fun vs H1 => r vs H1 Q := by
  refine ha w d σ _ s e ((Pst.of_bind h).mono (fun us S1 h1 w1 vs eS st s1 rs => ?_) fun _ _ q => q)
  subst eS
  exact hg w1 us vs Q s1 rs ((pst_noX h1 (hn us w1.S)).mono (fun _ _ q => q.up st) fun _ _ q => q)
variable {x : Str} {p pos apos cpos : Pos} {e o : Expr} {es : List Expr} {id T : String} {fa : FA} {fo : FE}
theorem se_callB {g : List U → Sto → R U} (hc : CallSim X (.builtin id) g) (hg : Gl X x) (hm : X.mg x = none) (hv : bootBuiltins x = some (.builtin id)) (ha : SimA X Wx (e :: es) fa) (hn : x ≠ "__name__" := by decide) (hdb : (x == ("__debug__" : Str)) = false := by decide)
    (he : starEach (e :: es) X.env = (false, eval e X.env) :: starEach es X.env := by rfl) (hpl : (backTo pos (starEach es X.env)).any (·.1) = false := by rfl) : SimE X Wx (.Call (.Name x p) (e :: es) [] pos) (fA g fa) := by
  obtain ⟨r, hc, hx, hr⟩ := hc
  obtain ⟨ta, pa, ha⟩ := ha.out
  exact SimE.mk (pe_callB hc hg hm hv pa hn hdb he hpl) (fun w d σ Q s e h => cb_core (es := es) hx hr ha w d σ Q s e h)
theorem se_callTy {g : List U → Sto → R U} (hc : CallSim X (.type T) g) (hg : Gl X x) (hm : X.mg x = none) (hv : bootBuiltins x = some (.type T)) (ha : SimA X Wx (e :: es) fa) (hn : x ≠ "__name__" := by decide) (hdb : (x == ("__debug__" : Str)) = false := by decide)
    (he : starEach (e :: es) X.env = (false, eval e X.env) :: starEach es X.env := by rfl) (hpl : (backTo pos (starEach es X.env)).any (·.1) = false := by rfl) : SimE X Wx (.Call (.Name x p) (e :: es) [] pos) (fA g fa) := by
  obtain ⟨r, hc, hx, hr⟩ := hc
  obtain ⟨ta, pa, ha⟩ := ha.out
  exact SimE.mk (pe_callTy hc hg hm hv pa hn hdb he hpl) (fun w d σ Q s e h => cb_core (es := es) hx hr ha w d σ Q s e h)
def tyU (T : String) (u : U) (S : Sto) : Bool := match u with
  | .str _ => T == "str"
  | .int _ => T == "int"
  | .lst _ => T == "list"
  | .frz _ => T == "list"
  | .dic _ _ => T == "dict"
  | .loc n => match S[n]? with
    | some (.lst _) => T == "list"
    | some (.dic _ _) => T == "dict"
    | _ => false
  | _ => false
theorem tyU_ok {w : Wd} {u : U} {v : V} {T : String} (s : SR (KMof X) w) (r : VR (KMof X) w u v) (h : tyU T u w.S = true) : tyV X.K T v w.H := by
  cases r with
  | str z => exact eq_of_beq h
  | int i => exact eq_of_beq h
  | lst hq n rs => exact .inl ⟨eq_of_beq h, _, SqL.of hq⟩
  | frz hq rs => exact .inl ⟨eq_of_beq h, _, hq.sq⟩
  | dic hq n l rs => exact .inr (.inr (.inl ⟨eq_of_beq h, .inl ⟨_, hq⟩⟩))
  | @loc n a hm =>
    unfold tyU at h
    dsimp only at h
    split at h
    · rename_i us hS
      obtain ⟨xs, q, rs⟩ := s.obj n a _ hm hS
      exact .inl ⟨eq_of_beq h, _, SqL.of q⟩
    · rename_i ks us hS
      obtain ⟨xs, q, l, rs⟩ := s.obj n a _ hm hS
      exact .inr (.inr (.inl ⟨eq_of_beq h, .inl ⟨_, q⟩⟩))
    · cases h
  | _ => cases h
def MtSim (X : Cx) (id : String) (g : U → List U → Sto → R U) : Prop := ∃ r, MtR X id r ∧ (∀ u us S, noX (g u us S)) ∧
  ∀ (w : Wd) (u : U) (us : List U) (v : V) (vs : List V) (Q : VK), SR (KMof X) w → VR (KMof X) w u v → VRs (KMof X) w us vs → Pst (g u us w.S) (OkE X w Q) (fun _ _ => False) → r v vs w.H Q
def fM (T : String) (g : U → List U → Sto → R U) (fo : FE) (fa : FA) : FE := fun d S => (fo d S).bind fun u S1 => guard (tyU T u S1) ((fa d S1).bind fun us S2 => g u us S2)
theorem se_bm {name : Str} {g : U → List U → Sto → R U} (pa : PlainAttrs T) (slot : Slot T name id) (hty : typeOf (.builtin id) = pure (.type "method_descriptor")) (hm : MtSim X id g) (ho : SimE X Wx o fo) (ha : SimA X Wx (e :: es) fa)
    (hbase : attributeBase o name X.env (eval o X.env) = eval o X.env := by rfl)
    (hfew : ((backTo cpos (starEach (e :: es) X.env)).all (fun x => !x.1) && (backToKw cpos (keywordEach [] X.env)).all (fun x => x.1.isSome)
      && decide ((e :: es).length + ([] : List Keyword).length + (if ([] : List Keyword).isEmpty then 0 else 1) < 30)) = true := by rfl)
    (hline : (apos.endLine == cpos.line) = true := by rfl) (hs : starEach (e :: es) X.env = (false, eval e X.env) :: starEach es X.env := by rfl) (hplain : (backTo cpos (starEach es X.env)).any (·.1) = false := by rfl) :
    SimE X Wx (.Call (.Attribute o name apos) (e :: es) [] cpos) (fM T g fo fa) := by
  obtain ⟨r, hm, hx, hr⟩ := hm
  obtain ⟨to, po, ho⟩ := ho.out
  obtain ⟨ta, pa', ha⟩ := ha.out
  refine SimE.mk (pe_bm pa slot hty hm po pa' hbase hfew hline hs hplain) (fun w d σ Q s e h => ?_)
  refine ho w d σ _ s e ((Pst.of_bind h).mono (fun u S1 h1 w1 v eS st s1 ru => ?_) fun _ _ q => q)
  subst eS
  obtain ⟨ht, h1⟩ := guard_post h1
  refine ⟨tyU_ok s1 ru ht, ?_⟩
  refine ha w1 d σ _ s1 (e.ext st.x s) ((Pst.of_bind h1).mono (fun us S2 h2 w2 vs eS st2 s2 rs => ?_) fun _ _ q => q.up st)
  subst eS
  exact hr w2 u us v vs Q s2 (ru.ext st2.x s1) rs ((pst_noX h2 (hx u us w2.S)).mono (fun _ _ q => q.up (st.trans st2)) fun _ _ q => q)
end
end DL
namespace DL
open PySem PySem.Spec L2
section
variable {X : Cx} {Wx : WX}
def lenU (u : U) (S : Sto) : Option Nat := match u with
  | .str z => if z.length ≤ sizeLine then some z.length else none
  | .tup us => some us.length
  | u => match listOf u S with
    | some us => some us.length
    | none => (dictOf u S).map fun p => p.1.length
def lenC (us : List U) (S : Sto) : R U := match us with
  | [u] => match lenU u S with
    | some n => .ok (.int n) S
    | none => .bad
  | _ => .bad
theorem zip_len {K : KM} {w : Wd} {ks : List Key} {us : List U} {xs : List V} (l : ks.length = us.length) (r : VRs K w us xs) : (ks.zip xs).length = ks.length := by
  rw [List.length_zip, ← r.length, ← l, Nat.min_self]
theorem cs_len : CallSim X (.builtin "len") lenC := by
  refine ⟨_, call_len.or call_lenD, fun us S => by unfold lenC; split <;> first | trivial | (split <;> trivial), fun w us vs Q s rs h => ?_⟩
  unfold lenC at h
  split at h
  · rename_i u
    cases rs with
    | cons r rs =>
      cases rs
      split at h
      · rename_i n hn
        have q := OkE.here h s (.int n)
        unfold lenU at hn
        split at hn
        · split at hn
          · rename_i hl
            cases hn; cases r
            exact .inl ⟨_, _, rfl, ⟨hl, rfl⟩, q⟩
          · cases hn
        · cases hn
          cases r with
          | tup hq rs => exact .inl ⟨_, _, rfl, .inr ⟨_, hq.sq, rs.length⟩, q⟩
        · split at hn
          · rename_i us hl
            cases hn
            obtain ⟨a, xs, rfl, hq, rs⟩ := listOf_ok s r hl
            exact .inl ⟨_, _, rfl, .inl ⟨_, hq, rs.length⟩, q⟩
          · cases hd : dictOf u w.S with
            | none => rw [hd] at hn; cases hn
            | some p =>
              obtain ⟨ks, us⟩ := p
              rw [hd] at hn
              cases hn
              obtain ⟨a, xs, rfl, hq, l, rs⟩ := dictOf_ok s r hd
              refine .inr ⟨a, _, rfl, hq, ?_⟩
              rw [zip_len l rs]
              exact q
      · exact h.elim
  · exact h.elim
def tyName (u : U) (S : Sto) : Option String := match u with
  | .non => some "NoneType"
  | .bl _ => some "bool"
  | .int _ => some "int"
  | .str _ => some "str"
  | .tup _ => some "tuple"
  | .lst _ => some "list"
  | .frz _ => some "list"
  | .dic _ _ => some "dict"
  | .loc n => match S[n]? with
    | some (.lst _) => some "list"
    | some (.dic _ _) => some "dict"
    | _ => none
  | .ty _ => none
  | .exc _ _ _ => none
  | .cl _ => none
theorem tyName_ok {w : Wd} {u : U} {v : V} {t : String} (s : SR (KMof X) w) (r : VR (KMof X) w u v) (h : tyName u w.S = some t) : TyX X.K w.H v (.type t) := by
  cases r with
  | non => cases h; exact .base .non
  | bl b => cases h; exact .base (.bl b)
  | int i => cases h; exact .base (.int i)
  | str x => cases h; exact .base (.str x)
  | tup hq rs =>
    cases h
    rcases hq with q | ⟨o, its, n, h1, h2, _⟩
    · exact .base (.tup q)
    · exact .kTuple h1 h2
  | lst hq n rs => cases h; exact .base (.lst hq)
  | frz hq rs =>
    cases h
    rcases hq with ⟨o, q⟩ | ⟨o, its, n, h1, h2, _⟩
    · exact .base (.frz q)
    · exact .kList h1 h2
  | dic hq n l rs => cases h; exact .base (.dK hq)
  | @loc n a hm =>
    unfold tyName at h
    dsimp only at h
    split at h
    · rename_i us hS
      cases h
      obtain ⟨xs, q, rs⟩ := s.obj n a _ hm hS
      exact .base (.lst q)
    · rename_i ks us hS
      cases h
      obtain ⟨xs, q, l, rs⟩ := s.obj n a _ hm hS
      exact .base (.dK q)
    · cases h
  | ty n => cases h
  | exc _ _ _ _ => cases h
  | cl _ => cases h
def isK (a b : String) : Bool := a == b || (a == "bool" && b == "int")
def kinds : List String := ["NoneType", "bool", "int", "str", "tuple", "list", "dict"]
def asked : List String := ["bool", "int", "str", "tuple", "list", "dict"]
theorem kit_all : (kinds.all fun a => asked.all fun b => decide (kitB a b = some (isK a b))) = true := by decide +kernel
theorem kit_isK {a b : String} (ha : a ∈ kinds) (hb : b ∈ asked) : kitB a b = some (isK a b) := by
  have h := List.all_eq_true.mp kit_all a ha
  exact of_decide_eq_true (List.all_eq_true.mp h b hb)
theorem tyName_kinds {u : U} {S : Sto} {t : String} (h : tyName u S = some t) : t ∈ kinds := by
  unfold tyName at h
  split at h
  all_goals first
    | (cases h; decide)
    | (split at h <;> first | (cases h; decide) | cases h)
    | cases h
def isiC (us : List U) (S : Sto) : R U := match us with
  | [u, .ty b] => match tyName u S with
    | some a => guard (asked.contains b) (.ok (.bl (isK a b)) S)
    | none => .bad
  | [u, .tup [.ty b, .ty c]] => match tyName u S with
    | some a => guard (asked.contains b && asked.contains c) (.ok (.bl (isK a b || isK a c)) S)
    | none => .bad
  | _ => .bad
theorem noX_isi (us : List U) (S : Sto) : noX (isiC us S) := by
  unfold isiC
  split
  · split <;> first | trivial | exact noX_guard trivial
  · split <;> first | trivial | exact noX_guard trivial
  · trivial
theorem cs_isi : CallSim X (.builtin "isinstance") isiC := by
  refine ⟨_, call_isi.or (call_isiT.or call_isiK), noX_isi, fun w us vs Q s rs h => ?_⟩
  unfold isiC at h
  split at h
  · rename_i u b
    split at h
    · rename_i a ha
      obtain ⟨hb, h⟩ := guard_post h
      have hb' : b ∈ asked := List.contains_iff_mem.mp hb
      cases rs with
      | cons r rs =>
        cases rs with
        | cons r2 rs =>
          cases rs
          cases r2
          exact .inl ⟨_, _, _, _, _, rfl, .ty b, tyName_ok s r ha, kit_ty (kit_isK (tyName_kinds ha) hb'), OkE.here h s (.bl _)⟩
    · exact h.elim
  · rename_i u b c
    split at h
    · rename_i a ha
      obtain ⟨hb, h⟩ := guard_post h
      rw [Bool.and_eq_true] at hb
      have hb' : b ∈ asked := List.contains_iff_mem.mp hb.1
      have hc' : c ∈ asked := List.contains_iff_mem.mp hb.2
      have hk := tyName_kinds ha
      have kk : ∀ K, PySem.W.kitAny K (.type a) [.type b, .type c] = some (isK a b || isK a c) := fun K => by
        refine kitAny_cons (kit_ty (kit_isK hk hb')) (fun e => ?_) (fun e => by rw [e]; rfl)
        rw [e, Bool.false_or]
        exact kitAny_cons (kit_ty (kit_isK hk hc')) (fun e => by rw [e]; exact kitAny_nil) (fun e => e)
      cases rs with
      | cons r rs =>
        cases rs with
        | cons r2 rs =>
          cases rs
          cases r2 with
          | @tup tp xs _ hq rs2 =>
            cases rs2 with
            | cons q1 rs2 =>
              cases rs2 with
              | cons q2 rs2 =>
                cases rs2
                cases q1
                cases q2
                rcases hq with q | ⟨o, its, n, h1, h2, h3, h4, h5⟩
                · exact .inr (.inl ⟨_, tp, _, _, _, _, rfl, q, .cons (.ty b) (.cons (.ty c) .nil), tyName_ok s r ha, kk _, OkE.here h s (.bl _)⟩)
                · obtain ⟨oc, od, dt, sl⟩ := o
                  simp only at h2 h3
                  subst h2 h3
                  have e5 : its.toList = [.type b, .type c] := ClsV.all (.cons (.ty b) (.cons (.ty c) .nil)) h5
                  have e6 : its = ([.type b, .type c] : List Value).toArray := by rw [← e5]
                  subst e6
                  exact .inr (.inr ⟨_, tp, od, _, n, sl, _, _, rfl, h1, tyName_ok s r ha, kk _, OkE.here h s (.bl _)⟩)
    · exact h.elim
  · exact h.elim
def minC (us : List U) (S : Sto) : R U := match us with
  | [.int i, .int j] => .ok (.int (if j < i then j else i)) S
  | _ => .bad
def maxC (us : List U) (S : Sto) : R U := match us with
  | [.int i, .int j] => .ok (.int (if j > i then j else i)) S
  | _ => .bad
def intC (us : List U) (S : Sto) : R U := match us with
  | [.int i] => .ok (.int i) S
  | [.bl b] => .ok (.int (if b then 1 else 0)) S
  | _ => .bad
theorem cs_min (hc : X.calm = true) : CallSim X (.builtin "min") minC := by
  refine ⟨_, call_min2 hc, fun us S => by unfold minC; split <;> trivial, fun w us vs Q s rs h => ?_⟩
  unfold minC at h
  split at h
  · cases rs with
    | cons r rs =>
      cases rs with
      | cons r2 rs =>
        cases rs; cases r; cases r2
        exact ⟨_, _, rfl, OkE.here h s (.int _)⟩
  · exact h.elim
theorem cs_max (hc : X.calm = true) : CallSim X (.builtin "max") maxC := by
  refine ⟨_, call_max2 hc, fun us S => by unfold maxC; split <;> trivial, fun w us vs Q s rs h => ?_⟩
  unfold maxC at h
  split at h
  · cases rs with
    | cons r rs =>
      cases rs with
      | cons r2 rs =>
        cases rs; cases r; cases r2
        exact ⟨_, _, rfl, OkE.here h s (.int _)⟩
  · exact h.elim
theorem cs_int : CallSim X (.type "int") intC := by
  refine ⟨_, call_int1, fun us S => by unfold intC; split <;> trivial, fun w us vs Q s rs h => ?_⟩
  unfold intC at h
  split at h
  · cases rs with
    | cons r rs => cases rs; cases r; exact .inl ⟨_, rfl, OkE.here h s (.int _)⟩
  · cases rs with
    | cons r rs => cases rs; cases r; exact .inr ⟨_, rfl, OkE.here h s (.int _)⟩
  · exact h.elim
def boolsOf : List U → Option (List Bool)
  | [] => some []
  | .bl b :: us => (boolsOf us).map (b :: ·)
  | _ => none
def strsOf : List U → Option (List Str)
  | [] => some []
  | .str i :: us => (strsOf us).map (i :: ·)
  | _ => none
theorem boolsOf_ok {K : KM} {w : Wd} : ∀ {us : List U} {vs : List V} {bs : List Bool}, VRs K w us vs → boolsOf us = some bs → vs = bs.map V.bl
  | _, _, _, .nil, h => by cases h; rfl
  | _, _, _, .cons (us := us) r rs, h => by
    cases r with
    | bl b =>
      unfold boolsOf at h
      cases e : boolsOf us with
      | none => rw [e] at h; cases h
      | some bs => rw [e] at h; cases h; rw [boolsOf_ok rs e]; rfl
    | _ => unfold boolsOf at h; cases h
theorem strsOf_ok {K : KM} {w : Wd} : ∀ {us : List U} {vs : List V} {bs : List Str}, VRs K w us vs → strsOf us = some bs → vs = bs.map V.str
  | _, _, _, .nil, h => by cases h; rfl
  | _, _, _, .cons (us := us) r rs, h => by
    cases r with
    | str b =>
      unfold strsOf at h
      cases e : strsOf us with
      | none => rw [e] at h; cases h
      | some bs => rw [e] at h; cases h; rw [strsOf_ok rs e]; rfl
    | _ => unfold strsOf at h; cases h
def overL {α : Type} (p : List U → Option α) (k : α → U) (us : List U) (S : Sto) : R U := match us with
  | [u] => match listOf u S with
    | some xs => match p xs with
      | some a => .ok (k a) S
      | none => .bad
    | none => .bad
  | _ => .bad
theorem noX_over {α : Type} (p : List U → Option α) (k : α → U) (us : List U) (S : Sto) : noX (overL p k us S) := by
  unfold overL
  split
  · split
    · split <;> trivial
    · trivial
  · trivial
theorem over_ok {α : Type} {p : List U → Option α} {k : α → U} {w : Wd} {us : List U} {vs : List V} {Q : VK} {E : Exc → Sto → Prop} (s : SR (KMof X) w) (rs : VRs (KMof X) w us vs) (h : Pst (overL p k us w.S) (OkE X w Q) E) (hE : ∀ x S, ¬ E x S) :
    ∃ a xs ys b, vs = [.ref a] ∧ SqL X.K w.H a ys ∧ VRs (KMof X) w xs ys ∧ p xs = some b ∧ OkE X w Q (k b) w.S := by
  unfold overL at h
  split at h
  · cases rs with
    | cons r rs =>
      cases rs
      split at h
      · rename_i xs hl
        split at h
        · rename_i b hb
          obtain ⟨a, ys, rfl, hq, q⟩ := listOf_ok s r hl
          exact ⟨a, xs, ys, b, rfl, hq, q, hb, h⟩
        · exact h.elim
      · exact h.elim
  · exact h.elim
abbrev allC := overL boolsOf fun bs => .bl (bs.all id)
theorem cs_all (hc : X.calm = true) : CallSim X (.builtin "all") allC := by
  refine ⟨_, cr_all hc, noX_over _ _, fun w us vs Q s rs h => ?_⟩
  obtain ⟨a, xs, ys, b, rfl, hq, r, e, q⟩ := over_ok s rs h fun _ _ z => z
  rw [boolsOf_ok r e] at hq
  exact ⟨a, b, rfl, hq, OkE.here q s (.bl _)⟩
def seqOf (u : U) (S : Sto) : Option (List U) := match u with
  | .tup us => some us
  | u => listOf u S
theorem seqOf_ok {w : Wd} {u : U} {v : V} {us : List U} (s : SR (KMof X) w) (r : VR (KMof X) w u v) (h : seqOf u w.S = some us) : ∃ a xs, v = .ref a ∧ (SqL X.K w.H a xs ∨ SqT X.K w.H a xs) ∧ VRs (KMof X) w us xs := by
  unfold seqOf at h
  split at h
  · cases h
    cases r with
    | tup hq rs => exact ⟨_, _, rfl, .inr hq.sq, rs⟩
  · obtain ⟨a, xs, e, q, rs⟩ := listOf_ok s r h
    exact ⟨a, xs, e, .inl q, rs⟩
def appM (u : U) (us : List U) (S : Sto) : R U := match u, us with
  | .loc n, [y] => match S[n]? with
    | some (.lst xs) => guard (decide (xs.length < sizeLine)) (.ok .non (S.set n (.lst (xs ++ [y]))))
    | _ => .bad
  | _, _ => .bad
theorem ms_append : MtSim X "list.append" appM := by
  refine ⟨_, mt_append, fun u us S => by unfold appM; split <;> first | trivial | (split <;> first | trivial | exact noX_guard trivial), fun w u us v vs Q s r rs h => ?_⟩
  unfold appM at h
  split at h
  · rename_i n y
    split at h
    · rename_i xs hS
      obtain ⟨hl, h⟩ := guard_post h
      cases r with
      | @loc _ a hm =>
        cases rs with
        | cons ry rs =>
          cases rs
          obtain ⟨ys, q, r2⟩ := s.obj n a _ hm hS
          rename_i vy
          refine ⟨a, ys, vy, rfl, rfl, q, by rw [← r2.length]; exact of_decide_eq_true hl, ?_⟩
          have st : Stp w (w.put n a (.lst (ys ++ [vy])) (.lst (xs ++ [y]))) := Stp.put s hm hS (by intro z; cases z)
          exact h _ .non rfl st (s.put hm hS (by intro z; cases z) ⟨_, upd_same, (r2.snoc ry).ext st.x s⟩) .non
    · exact h.elim
  · exact h.elim
def splitM (u : U) (us : List U) (S : Sto) : R U := match u, us with
  | .str a, [.str b] => guard (!(b.length == 0) && decide (a.length + 2 ≤ sizeLine)) (.ok (.lst ((Txt.split a b).map .str)) S)
  | _, _ => .bad
theorem strs_rel {K : KM} {w : Wd} : ∀ ys : List Str, VRs K w (ys.map .str) (ys.map V.str)
  | [] => .nil
  | y :: ys => .cons (.str y) (strs_rel ys)
theorem new_strs {w : Wd} {Q : VK} {ys : List Str} (s : SR (KMof X) w) (h : OkE X w Q (.lst (ys.map .str)) w.S) : rNewStrs ys w.H Q := fun p hp => by
  have st := Stp.new s (o := .lst (ys.map V.str)) hp
  exact h (w.new p _) (.ref p) rfl st (s.new hp) (.lst upd_same (fun q => s.tracked q hp) (strs_rel ys))
theorem ms_split : MtSim X "str.split" splitM := by
  refine ⟨_, mt_split, fun u us S => by unfold splitM; split <;> first | trivial | exact noX_guard trivial, fun w u us v vs Q s r rs h => ?_⟩
  unfold splitM at h
  split at h
  · obtain ⟨hl, h⟩ := guard_post h
    rw [Bool.and_eq_true, Bool.not_eq_true'] at hl
    cases r
    cases rs with
    | cons r2 rs =>
      cases rs; cases r2
      exact ⟨_, _, rfl, rfl, hl.1, of_decide_eq_true hl.2, new_strs s h⟩
  · exact h.elim
def joinM (u : U) (us : List U) (S : Sto) : R U := match u, us with
  | .str a, [l] => match seqOf l S with
    | some xs => match strsOf xs with
      | some ys => guard (decide ((ys.map (·.length)).sum + ys.length * a.length ≤ 16777216)) (.ok (.str (Txt.join a ys)) S)
      | none => .bad
    | none => .bad
  | _, _ => .bad
theorem ms_join : MtSim X "str.join" joinM := by
  refine ⟨_, mt_join, fun u us S => by unfold joinM; split <;> first | trivial | (split <;> first | trivial | (split <;> first | trivial | exact noX_guard trivial)), fun w u us v vs Q s r rs h => ?_⟩
  unfold joinM at h
  split at h
  · split at h
    · rename_i xs hx
      split at h
      · rename_i ys hy
        obtain ⟨hl, h⟩ := guard_post h
        cases r
        cases rs with
        | cons r2 rs =>
          cases rs
          obtain ⟨p, zs, rfl, hq, q⟩ := seqOf_ok s r2 hx
          have e := strsOf_ok q hy
          subst e
          exact ⟨_, p, ys, rfl, rfl, hq, of_decide_eq_true hl, OkE.here h s (.str _)⟩
      · exact h.elim
    · exact h.elim
  · exact h.elim
def getM (u : U) (us : List U) (S : Sto) : R U := match dictOf u S, us with
  | some (ks, xs), [k] => match keyU k with
    | some k => .ok ((valU ks xs k).getD .non) S
    | none => .bad
  | some (ks, xs), [k, z] => match keyU k with
    | some k => .ok ((valU ks xs k).getD z) S
    | none => .bad
  | _, _ => .bad
theorem mt_dget (hu : X.A.units + 1 < cLine) : MtR X "dict.get" (fun x xs H Q => (∃ a y o, x = .ref a ∧ xs = [y] ∧ DGet H a y o ∧ Q (o.getD .non) H) ∨ ∃ a y z o, x = .ref a ∧ xs = [y, z] ∧ DGet H a y o ∧ Q (o.getD z) H) := by
  intro pins s σ H x xs v us Q I rx rs h
  rcases h with ⟨a, y, o, rfl, rfl, g, q⟩ | ⟨a, y, z, o, rfl, rfl, g, q⟩
  · cases rx
    obtain ⟨u, rfl, ru⟩ := vals1 rs
    exact d_get1 hu I g ru fun w' s' I' r' => ⟨_, H, I', r', q⟩
  · cases rx
    obtain ⟨u, u2, rfl, ru, ru2⟩ := vals2 rs
    exact d_get2 hu I g ru ru2 fun w' s' I' r' => ⟨_, H, I', r', q⟩
theorem valU_getD {K : KM} {w : Wd} {ks : List Key} {us : List U} {xs : List V} (k : Key) (r : VRs K w us xs) {z : U} {vz : V} (rz : VR K w z vz) : VR K w ((valU ks us k).getD z) ((valV (ks.zip xs) k).getD vz) := by
  obtain ⟨h1, h2⟩ := valU_ok (ks := ks) k r
  cases h : valU ks us k with
  | none => rw [h1 h]; exact rz
  | some u => obtain ⟨v, e, q⟩ := h2 u h; rw [e]; exact q
theorem ms_get (hu : X.A.units + 1 < cLine) : MtSim X "dict.get" getM := by
  refine ⟨_, mt_dget hu, fun u us S => by unfold getM; split <;> first | trivial | (split <;> trivial), fun w u us v vs Q s r rs h => ?_⟩
  unfold getM at h
  split at h
  · rename_i ks xs k hd
    split at h
    · rename_i k' hk
      obtain ⟨a, ys, rfl, hq, l, r2⟩ := dictOf_ok s r hd
      cases rs with
      | cons rk rs =>
        cases rs
        rw [keyU_ok rk hk]
        exact .inl ⟨a, _, _, rfl, rfl, DGet.k hq, OkE.here h s (valU_getD k' r2 .non)⟩
    · exact h.elim
  · rename_i ks xs k z hd
    split at h
    · rename_i k' hk
      obtain ⟨a, ys, rfl, hq, l, r2⟩ := dictOf_ok s r hd
      cases rs with
      | cons rk rs =>
        cases rs with
        | cons rz rs =>
          cases rs
          rw [keyU_ok rk hk]
          exact .inr ⟨a, _, _, _, rfl, rfl, DGet.k hq, OkE.here h s (valU_getD k' r2 rz)⟩
    · exact h.elim
  · exact h.elim
end
end DL
namespace DL
open PySem PySem.Spec L2
def spOf (K : KM) (n : Nat) (g : List U → Sto → R U) : Sp := fun vs H Q E => ∃ (w : Wd) (us : List U), w.H = H ∧ SR K w ∧ VRs K w us vs ∧ us.length = n ∧
  Pst (g us w.S) (fun u S' => ∀ (w' : Wd) (v : V), w'.S = S' → Stp w w' → SR K w' → VR K w' u v → Q v w'.H)
    (fun x S' => ∀ (w' : Wd) (cls : Value) (d : Option Addr), w'.S = S' → Stp w w' → SR K w' → XRel K w' x cls d → E cls d w'.H)
def endB (fl : Fl) (S : Sto) : R U := match fl with
  | .nx _ => .ok .non S
  | .rt u => .ok u S
  | .ex x _ => .exc x S
  | _ => .bad
def runB (body : FS) (d : En) (S : Sto) : R U := match body d S with
  | .ok fl S' => endB fl S'
  | _ => .bad
theorem fn_sim {P : Program} {w : World} {K : PySem.W.Frag} {mg : Str → Option Value} {base : Heap} {x qual : Str} {st : Stmt} {f : Addr} {fd : FuncData} {N ps : List Str} {k : Nat} {g : List U → Sto → R U} {body : FS}
    (F : Fun K x qual st f fd) (Sc : FnScope N ps (defScope st)) (hg : ∀ us S, us.length = ps.length → g us S = runB body (enStart N.length us) S)
    (hbody : ∀ (cdv : Value) (A : Around) (outer : List Env) (s : Shared) (H : Hp) (E : XK), Room k (A.deeper (PyProof.Rows.envOfC qual (defScope st) s.heap.objs.size f cdv)) →
      SimB (cxOf (L2.CX P w) P w K mg base N qual (defScope st) f cdv A outer s H E) (fun cls d _ H' => E cls d H') (defBody st) body) : FnOk P w K mg base (L2.CX P w) (k + 1) f fd ps (spOf ⟨K, mg, P, w⟩ ps.length g) := by
  refine F.okX Sc (fun vs H Q E h => ?_) fun cdv A outer s H vs Q E hr h => ?_
  · obtain ⟨w, us, _, _, rs, l, _⟩ := h
    rw [← rs.length, l]
  · obtain ⟨w, us, e, sr, rs, l, q⟩ := h
    subst e
    obtain ⟨t, p, hb⟩ := (hbody cdv A outer s w.H E hr).out
    refine ⟨t, p, hb w (enStart N.length us) (start N vs) _ sr (ER.start rs) ?_⟩
    rw [hg us w.S l] at q
    unfold runB at q
    cases hh : body (enStart N.length us) w.S with
    | ok fl S1 =>
      rw [hh] at q
      intro w1 eS st s1
      cases fl with
      | nx d => exact fun σ' _ => q w1 .non eS st s1 .non
      | rt u => exact fun v r => q w1 v eS st s1 r
      | bk d => exact q.elim
      | ct d => exact q.elim
      | ex x d => exact fun σ' _ cls dd xr => q w1 cls dd eS st s1 xr
    | bad => rw [hh] at q; exact q.elim
    | exc y S => rw [hh] at q; exact q.elim
section
variable {X : Cx} {Wx : WX}
abbrev PasX (X : Cx) (Wx : WX) : Prop := ∀ σ, PassesAt (L2.CX X.prog X.w) X σ (fun c d H => Wx c d σ H)
theorem pas_of (tk : Takes X Wx) : PasX X Wx := fun σ => passAt tk σ
theorem pas_none : PasX X (fun _ _ _ _ => False) := fun σ => passAt takes0 σ
theorem call_core {n k : Nat} {f : Addr} {fd : FuncData} {ps : List Str} {g : List U → Sto → R U} {fa : FA} {ta : TA}
    (ha : ∀ (w : Wd) (d : En) (σ : L2.St) (Q : List V → Hp → Prop), SR (KMof X) w → ER (KMof X) w d σ → Pst (fa d w.S) (OkA X w Q) (XPost X Wx σ w) → ta σ w.H Q)
    (w : Wd) (d : En) (σ : L2.St) (Q : VK) (s : SR (KMof X) w) (e : ER (KMof X) w d σ) (h : Pst (fA (fun us S => guard (us.length == n) (g us S)) fa d w.S) (OkE X w Q) (XPost X Wx σ w)) :
    tCallSD (spOf (KMof X) n g) [] (fun σ c d H => Wx c d σ H) ta σ w.H Q := by
  refine ha w d σ _ s e ((Pst.of_bind h).mono (fun us S1 h1 w1 vs eS st s1 rs => ?_) fun _ _ q => q)
  subst eS
  obtain ⟨hl, h1⟩ := guard_post h1
  rw [List.append_nil]
  exact ⟨w1, us, rfl, s1, rs, eq_of_beq hl, h1.mono (fun u S2 q w2 v e2 st2 s2 r2 => q w2 v e2 (st.trans st2) s2 r2) fun x S2 q w2 cls dd e2 st2 s2 xr => q w2 cls dd e2 (st.trans st2) s2 xr⟩
def fCall (n : Nat) (g : List U → Sto → R U) (fa : FA) : FE := fA (fun us S => guard (us.length == n) (g us S)) fa
theorem se_call {k : Nat} {f : Addr} {fd : FuncData} {ps : List Str} {n : Nat} {g : List U → Sto → R U} {x : Str} {p pos : Pos} {e : Expr} {es : List Expr} {fa : FA}
    (F : FnOk X.prog X.w X.K X.mg X.base (L2.CX X.prog X.w) k f fd ps (spOf (KMof X) n g)) (hr : Room k X.A) (hx : PasX X Wx) (hg : Gl X x) (hm : X.mg x = some (.ref f)) (hk : PySem.W.keepIn X.K (.ref f) = true) (hb : Binds X.K fd ps []) (ha : SimA X Wx (e :: es) fa)
    (hdb : (x == ("__debug__" : Str)) = false := by decide) (he : starEach (e :: es) X.env = (false, eval e X.env) :: starEach es X.env := by rfl) (hpl : (backTo pos (starEach es X.env)).any (·.1) = false := by rfl) :
    SimE X Wx (.Call (.Name x p) (e :: es) [] pos) (fCall n g fa) := by
  obtain ⟨ta, pa, ha⟩ := ha.out
  exact SimE.mk (pe_callSD F hr hg hm hk hb .nil hx pa hdb he hpl) (fun w d σ Q s e h => call_core (k := k) (f := f) (fd := fd) (ps := ps) ha w d σ Q s e h)
def toS {α : Type} (d : En) (r : R α) (k : α → Sto → R Fl) : R Fl := match r with
  | .ok a S => k a S
  | .exc x S => .ok (.ex x d) S
  | .bad => .bad
theorem toS_post {α : Type} {w : Wd} {d : En} {σ : L2.St} {D : Ends} {r : R α} {k : α → Sto → R Fl} (s : SR (KMof X) w) (e : ER (KMof X) w d σ) (h : Pst (toS d r k) (OkS X Wx w D) (fun _ _ => False)) :
    Pst r (fun a S => Pst (k a S) (OkS X Wx w D) (fun _ _ => False)) (XPost X Wx σ w) := by
  cases r with
  | ok a S => exact h
  | exc x S => exact fun w' cls dd eS st s' xr => h w' eS st s' σ (e.ext st.x s) cls dd xr
  | bad => exact h
variable {e : Expr} {st : Stmt} {rest : List Stmt} {pos : Pos}
def fNop : FS := fun d S => .ok (.nx d) S
def fExpr (f : FE) : FS := fun d S => toS d (f d S) fun _ S1 => .ok (.nx d) S1
def fRet (f : FE) : FS := fun d S => toS d (f d S) fun u S1 => .ok (.rt u) S1
def fRetN : FS := fun _ S => .ok (.rt .non) S
def fBrk : FS := fun d S => .ok (.bk d) S
def fCt : FS := fun d S => .ok (.ct d) S
theorem ss_expr {f : FE} (he : SimE X Wx e f) (hs : swapsWith e none pos.line X.env = pure false := by rfl) : SimS X Wx (.Expr e pos) (fExpr f) := by
  obtain ⟨t, p, he⟩ := he.out
  refine SimS.mk (ps_expr p hs) (fun w d σ D s e h => ?_)
  exact he w d σ _ s e ((toS_post s e h).mono (fun u S1 h1 w1 v eS st s1 r => h1 w1 eS st s1 σ (e.ext st.x s)) fun _ _ q => q)
theorem ss_ret {f : FE} (he : SimE X Wx e f) : SimS X Wx (.Return (some e) pos) (fRet f) := by
  obtain ⟨t, p, he⟩ := he.out
  refine SimS.mk (ps_ret p) (fun w d σ D s e h => ?_)
  exact he w d σ _ s e ((toS_post s e h).mono (fun u S1 h1 w1 v eS st s1 r => h1 w1 eS st s1 v r) fun _ _ q => q)
def fSet (i : Nat) (f : FE) : FS := fun d S => toS d (f d S) fun u S1 => .ok (.nx (d.set i (some u))) S1
theorem ss_set (i : Nat) {x : Str} {f : FE} {pos' : Pos} (hN : X.N.Nodup) (hi : X.N[i]? = some x) (hx : Loc X.env.scope x) (he : SimE X Wx e f) (hs : swapsWith e (some (.Name x pos')) pos.line X.env = pure false := by rfl)
    (hf : X.fn x = true ∨ X.env.scope.names.lookup x = some .local := by first | exact .inl rfl | exact .inr rfl | assumption) : SimS X Wx (.Assign [.Name x pos'] e pos) (fSet i f) := by
  obtain ⟨t, p, he⟩ := he.out
  refine SimS.mk (ps_set hN hi hx p hs hf) (fun w d σ D s e h => ?_)
  exact he w d σ _ s e ((toS_post s e h).mono (fun u S1 h1 w1 v eS st s1 r => h1 w1 eS st s1 _ ((e.ext st.x s).set i r)) fun _ _ q => q)
def Keeps (is : List Nat) (σ σ' : L2.St) : Prop := ∀ vs : List Nat, (∀ i ∈ is, i ∈ vs) → wipe σ' vs = wipe σ vs
def tG (X : Cx) (is : List Nat) (g : U → En → Option En) : TG := fun v σ H Q => ∃ (w : Wd) (u : U) (d d' : En), w.H = H ∧ SR (KMof X) w ∧ ER (KMof X) w d σ ∧ VR (KMof X) w u v ∧ g u d = some d' ∧ ∀ σ', ER (KMof X) w d' σ' → Keeps is σ σ' → Q σ' w.H
def tGs (X : Cx) (is : List Nat) (g : List U → En → Option En) : TGs := fun vs σ H Q => ∃ (w : Wd) (us : List U) (d d' : En), w.H = H ∧ SR (KMof X) w ∧ ER (KMof X) w d σ ∧ VRs (KMof X) w us vs ∧ g us d = some d' ∧ ∀ σ', ER (KMof X) w d' σ' → Keeps is σ σ' → Q σ' w.H
def SimG (X : Cx) (tg : Expr) (is : List Nat) (g : U → En → Option En) : Prop := PG X tg (tG X is g)
def SimGs (X : Cx) (tgs : List Expr) (is : List Nat) (g : List U → En → Option En) : Prop := PGs X tgs (tGs X is g)
theorem SimG.out {tg : Expr} {is : List Nat} {g : U → En → Option En} (h : SimG X tg is g) : ∃ t, PG X tg t ∧ ∀ (w : Wd) (u : U) (v : V) (d d' : En) (σ : L2.St) (Q : L2.St → Hp → Prop), SR (KMof X) w → ER (KMof X) w d σ → VR (KMof X) w u v → g u d = some d' → (∀ σ', ER (KMof X) w d' σ' → Keeps is σ σ' → Q σ' w.H) → t v σ w.H Q :=
  ⟨_, h, fun w u v d d' σ Q s e r h q => ⟨w, u, d, d', rfl, s, e, r, h, q⟩⟩
theorem SimG.mk {tg : Expr} {is : List Nat} {g : U → En → Option En} {t : TG} (p : PG X tg t) (h : ∀ (w : Wd) (u : U) (v : V) (d d' : En) (σ : L2.St) (Q : L2.St → Hp → Prop), SR (KMof X) w → ER (KMof X) w d σ → VR (KMof X) w u v → g u d = some d' → (∀ σ', ER (KMof X) w d' σ' → Keeps is σ σ' → Q σ' w.H) → t v σ w.H Q) : SimG X tg is g :=
  ⟨fun pins s σ H v u Q I r ⟨w, y, d, d', e, sr, er, vr, hg, q⟩ => p.run pins s σ H v u Q I r (by subst e; exact h w y v d d' σ Q sr er vr hg q)⟩
theorem SimGs.out {tgs : List Expr} {is : List Nat} {g : List U → En → Option En} (h : SimGs X tgs is g) : ∃ t, PGs X tgs t ∧ ∀ (w : Wd) (us : List U) (vs : List V) (d d' : En) (σ : L2.St) (Q : L2.St → Hp → Prop), SR (KMof X) w → ER (KMof X) w d σ → VRs (KMof X) w us vs → g us d = some d' → (∀ σ', ER (KMof X) w d' σ' → Keeps is σ σ' → Q σ' w.H) → t vs σ w.H Q :=
  ⟨_, h, fun w u v d d' σ Q s e r h q => ⟨w, u, d, d', rfl, s, e, r, h, q⟩⟩
theorem SimGs.mk {tgs : List Expr} {is : List Nat} {g : List U → En → Option En} {t : TGs} (p : PGs X tgs t) (h : ∀ (w : Wd) (us : List U) (vs : List V) (d d' : En) (σ : L2.St) (Q : L2.St → Hp → Prop), SR (KMof X) w → ER (KMof X) w d σ → VRs (KMof X) w us vs → g us d = some d' → (∀ σ', ER (KMof X) w d' σ' → Keeps is σ σ' → Q σ' w.H) → t vs σ w.H Q) : SimGs X tgs is g :=
  ⟨fun pins s σ H vs us Q I r ⟨w, y, d, d', e, sr, er, vr, hg, q⟩ => p.run pins s σ H vs us Q I r (by subst e; exact h w y vs d d' σ Q sr er vr hg q)⟩
theorem wipe_get (σ : L2.St) : ∀ (vs : List Nat) (j : Nat), (wipe σ vs)[j]? = if j ∈ vs then (if j < σ.length then some none else none) else σ[j]?
  | [], j => by simp [wipe]
  | v :: vs, j => by
    unfold wipe
    by_cases e : v = j
    · subst e
      by_cases hl : v < σ.length
      · rw [List.getElem?_set_self (by rw [wipe_length]; exact hl)]; simp [hl]
      · rw [List.getElem?_eq_none (by rw [List.length_set, wipe_length]; omega)]; simp [hl]
    · rw [List.getElem?_set_ne e, wipe_get σ vs j]
      have : (j ∈ v :: vs) ↔ j ∈ vs := by simp [Ne.symm e]
      simp only [this]
theorem keeps_set {σ : L2.St} (i : Nat) (o : Option V) : Keeps [i] σ (σ.set i o) := fun vs h => by
  refine List.ext_getElem? fun j => ?_
  rw [wipe_get, wipe_get, List.length_set]
  by_cases hj : j ∈ vs
  · rw [if_pos hj, if_pos hj]
  · rw [if_neg hj, if_neg hj, List.getElem?_set_ne fun e => hj (by rw [← e]; exact h i (by simp))]
theorem Keeps.refl (σ : L2.St) : Keeps [] σ σ := fun _ _ => rfl
theorem Keeps.trans {is js : List Nat} {σ σ1 σ2 : L2.St} (a : Keeps is σ σ1) (b : Keeps js σ1 σ2) : Keeps (is ++ js) σ σ2 := fun vs h =>
  (b vs fun i hi => h i (List.mem_append_right _ hi)).trans (a vs fun i hi => h i (List.mem_append_left _ hi))
def gN (i : Nat) (u : U) (d : En) : Option En := some (d.set i (some u))
theorem sg_name (i : Nat) {x : Str} (hN : X.N.Nodup) (hi : X.N[i]? = some x) (hx : Loc X.env.scope x) (hf : X.fn x = true ∨ X.env.scope.names.lookup x = some .local := by first | exact .inl rfl | exact .inr rfl | assumption) : SimG X (.Name x pos) [i] (gN i) :=
  SimG.mk (pg_name hN hi hx hf) fun w u v d d' σ Q s e r h q => by cases h; exact q _ (e.set i r) (keeps_set i _)
def fAsg (g : U → En → Option En) (f : FE) : FS := fun d S => toS d (f d S) fun u S1 => match g u d with
  | some d' => .ok (.nx d') S1
  | none => .bad
def fPar (i j : Nat) (fa : FA) : FS := fun d S => toS d (fa d S) fun us S1 => match us with
  | [u, v] => .ok (.nx ((d.set i (some u)).set j (some v))) S1
  | _ => .bad
theorem ss_par (i j : Nat) {x y : Str} {a b : Expr} {fa : FA} {px py pt : Pos} {kt k2 pt2} (hc : X.calm = true) (hN : X.N.Nodup) (hi : X.N[i]? = some x) (hj : X.N[j]? = some y) (hij : i ≠ j)
    (hx : X.env.scope.names.lookup x = some .local) (hy : X.env.scope.names.lookup y = some .local) (ha : SimA X Wx [a, b] fa)
    (hw : swappedStores [.Tuple [.Name x px, .Name y py] kt pt] (.Tuple [a, b] k2 pt2) X.env = pure (some [x, y]))
    (hs : swapsWithSole [.Tuple [.Name x px, .Name y py] kt pt] (.Tuple [a, b] k2 pt2) pos.line X.env = pure false := by rfl) :
    SimS X Wx (.Assign [.Tuple [.Name x px, .Name y py] kt pt] (.Tuple [a, b] k2 pt2) pos) (fPar i j fa) := by
  obtain ⟨t, p, ha⟩ := ha.out
  refine SimS.mk (ps_par hc hN hi hj hij hx hy p hw hs) (fun w d σ D s e h => ?_)
  refine ha w d σ _ s e ((toS_post s e h).mono (fun us S1 k1 w1 vs eS st s1 rs => ?_) fun _ _ q => q)
  split at k1
  · cases rs with
    | cons r1 rs =>
      cases rs with
      | cons r2 rs =>
        cases rs
        exact ⟨_, _, rfl, k1 w1 eS st s1 _ (((e.ext st.x s).set i r1).set j r2)⟩
  · exact k1.elim
def fSeq (f g : FS) : FS := fun d S => match f d S with
  | .ok (.nx d1) S1 => g d1 S1
  | r => r
theorem sb_nil : SimB X Wx [] fNop := SimB.mk pss_nil (fun w d σ D s e h => h w rfl (Stp.refl w) s σ e)
theorem sb_one {f : FS} (h : SimS X Wx st f) : SimB X Wx [st] f := by
  obtain ⟨t, p, h⟩ := h.out
  exact SimB.mk (pss_one p) h
theorem sb_cons {f g : FS} (h1 : SimS X Wx st f) (h2 : SimB X Wx rest g) : SimB X Wx (st :: rest) (fSeq f g) := by
  obtain ⟨t, p, h1⟩ := h1.out
  obtain ⟨u, q, h2⟩ := h2.out
  refine SimB.mk (pss_cons p q) (fun w d σ D s e h => h1 w d σ _ s e ?_)
  unfold fSeq at h
  cases hf : f d w.S with
  | ok fl S1 =>
    rw [hf] at h
    cases fl with
    | nx d1 =>
      intro w1 eS st s1 σ1 e1
      subst eS
      exact h2 w1 d1 σ1 D s1 e1 (Pst.mono h (fun _ _ q => q.up st) fun _ _ q => q)
    | rt u => exact h
    | bk d1 => exact h
    | ct d1 => exact h
    | ex x d1 => exact h
  | exc x S => rw [hf] at h; exact h
  | bad => rw [hf] at h; exact h
def fIfS (c : FT) (f g : FS) : FS := fun d S => toS d (c d S) fun b S1 => if b then f d S1 else g d S1
theorem ss_if {c : Expr} {a b : List Stmt} {fc : FT} {f g : FS} (hc : SimT X Wx c fc) (ha : SimB X Wx a f) (hb : SimB X Wx b g) : SimS X Wx (.If c a b pos) (fIfS fc f g) := by
  obtain ⟨tc, pc, hc⟩ := hc.out
  obtain ⟨ta, pa, ha⟩ := ha.out
  obtain ⟨tb, pb, hb⟩ := hb.out
  refine SimS.mk (ps_if pc pa pb) (fun w d σ D s e h => ?_)
  refine hc w d σ _ s e ((toS_post s e h).mono (fun k S1 h1 w1 eS st s1 => ?_) fun _ _ q => q)
  subst eS
  cases k with
  | true => exact ha w1 d σ D s1 (e.ext st.x s) (Pst.mono h1 (fun _ _ q => q.up st) fun _ _ q => q)
  | false => exact hb w1 d σ D s1 (e.ext st.x s) (Pst.mono h1 (fun _ _ q => q.up st) fun _ _ q => q)
def ItSim (K : KM) (w : Wd) (J : It) (us : List U) : Prop := ∀ (w' : Wd) (i : Nat), Ext w w' → SR K w' →
  (∀ u, us[i]? = some u → J.go i w'.H ∧ ∀ x H', J.yld i w'.H x H' → ∃ w'' : Wd, w''.H = H' ∧ w''.S = w'.S ∧ Stp w' w'' ∧ SR K w'' ∧ VR K w'' u x) ∧ (us.length ≤ i → J.stop i w'.H)
def OkI (X : Cx) (w : Wd) (Q : It → Hp → Prop) (us : List U) (S' : Sto) : Prop := ∀ (w' : Wd) (J : It), w'.S = S' → Stp w w' → SR (KMof X) w' → ItSim (KMof X) w' J us → Q J w'.H
def SimI (X : Cx) (Wx : WX) (tg iter : Expr) (f : FA) : Prop := ∃ t, PI X tg iter t ∧ ∀ (w : Wd) (d : En) (σ : L2.St) (Q : It → Hp → Prop), SR (KMof X) w → ER (KMof X) w d σ → Pst (f d w.S) (OkI X w Q) (XPost X Wx σ w) → t σ w.H Q
theorem ItSim.same {K : KM} {w : Wd} {J : It} {us : List U} (h : ∀ (w' : Wd) (i : Nat), Ext w w' → SR K w' → (∀ u, us[i]? = some u → J.go i w'.H ∧ ∀ x H', J.yld i w'.H x H' → H' = w'.H ∧ VR K w' u x) ∧ (us.length ≤ i → J.stop i w'.H)) : ItSim K w J us := fun w' i x s => by
  obtain ⟨h1, h2⟩ := h w' i x s
  refine ⟨fun u hu => ?_, h2⟩
  obtain ⟨h3, h4⟩ := h1 u hu
  refine ⟨h3, fun y H' q => ?_⟩
  obtain ⟨e, r⟩ := h4 y H' q
  exact ⟨w', e.symm, rfl, Stp.refl w', s, r⟩
variable {tg iter : Expr}
def aOver (p : U → Option (List U)) (f : FE) : FA := fun d S => (f d S).bind fun u S1 => match p u with
  | some us => .ok us S1
  | none => .bad
def lstV : U → Option (List U)
  | .lst us => some us
  | .frz us => some us
  | _ => none
def tupV : U → Option (List U)
  | .tup us => some us
  | _ => none
def strV : U → Option (List U)
  | .str z => some (z.cps.toList.map fun c => .str ⟨#[c]⟩)
  | _ => none
theorem lstV_ok {K : KM} {w : Wd} {u : U} {v : V} {us : List U} (r : VR K w u v) (h : lstV u = some us) : ∃ a, v = .ref a ∧ ∀ w', Ext w w' → SR K w → ∃ xs, SqL K w'.H a xs ∧ VRs K w' us xs := by
  cases r with
  | @lst a xs _ hq n rs => cases h; exact ⟨a, rfl, fun w' x s => ⟨xs, SqL.of (x.keep _ _ hq n), rs.ext x s⟩⟩
  | @frz a xs _ hq rs => cases h; exact ⟨a, rfl, fun w' x s => ⟨xs, (x.fz s hq).sq, rs.ext x s⟩⟩
  | _ => cases h
theorem si_list {f : FE} (h : SimE X Wx iter f) : SimI X Wx tg iter (aOver lstV f) := by
  obtain ⟨t, p, h⟩ := h.out
  refine ⟨_, pi_list p, fun w d σ Q s e h0 => ?_⟩
  refine h w d σ _ s e ((Pst.of_bind h0).mono (fun u S1 h1 w1 v eS st s1 r => ?_) fun _ _ q => q)
  split at h1
  · rename_i us hu
    obtain ⟨a, rfl, hk⟩ := lstV_ok r hu
    obtain ⟨xs, hq, rs⟩ := hk w1 (Ext.refl w1) s1
    refine ⟨a, rfl, ⟨xs, hq⟩, h1 w1 _ eS st s1 (ItSim.same fun w' i x s' => ?_)⟩
    obtain ⟨ys, hq', rs'⟩ := hk w' x s1
    refine ⟨fun u hi => ?_, fun hi => ⟨ys, hq', by rw [← rs'.length]; exact hi⟩⟩
    obtain ⟨y, hy, ry⟩ := rs'.get hi
    refine ⟨⟨ys, y, hq', hy⟩, fun z H' q => ⟨q.1, ?_⟩⟩
    have e2 := q.2 ys hq'
    rw [hy] at e2
    cases e2
    exact ry
  · exact h1.elim
theorem si_tup {f : FE} (h : SimE X Wx iter f) : SimI X Wx tg iter (aOver tupV f) := by
  obtain ⟨t, p, h⟩ := h.out
  refine ⟨_, pi_tup p, fun w d σ Q s e h0 => ?_⟩
  refine h w d σ _ s e ((Pst.of_bind h0).mono (fun u S1 h1 w1 v eS st s1 r => ?_) fun _ _ q => q)
  cases r with
  | @tup a xs us hq rs =>
    refine ⟨a, rfl, ⟨xs, hq.sq⟩, h1 w1 _ eS st s1 (ItSim.same fun w' i x s' => ?_)⟩
    have hq' := (x.sqT s1 hq).sq
    have rs' := rs.ext x s1
    refine ⟨fun u hi => ?_, fun hi => ⟨xs, hq', by rw [← rs'.length]; exact hi⟩⟩
    obtain ⟨y, hy, ry⟩ := rs'.get hi
    refine ⟨⟨xs, y, hq', hy⟩, fun z H' q => ⟨q.1, ?_⟩⟩
    have e2 := q.2 xs hq'
    rw [hy] at e2
    cases e2
    exact ry
  | _ => exact h1.elim
theorem si_str {f : FE} (h : SimE X Wx iter f) : SimI X Wx tg iter (aOver strV f) := by
  obtain ⟨t, p, h⟩ := h.out
  refine ⟨_, pi_str p, fun w d σ Q s e h0 => ?_⟩
  refine h w d σ _ s e ((Pst.of_bind h0).mono (fun u S1 h1 w1 v eS st s1 r => ?_) fun _ _ q => q)
  cases r with
  | str z =>
    refine ⟨z, rfl, h1 w1 _ eS st s1 (ItSim.same fun w' i x s' => ?_)⟩
    refine ⟨fun u hi => ?_, fun hi => ?_⟩
    · rw [List.getElem?_map] at hi
      cases hc : z.cps.toList[i]? with
      | none => rw [hc] at hi; cases hi
      | some c =>
        rw [hc] at hi
        cases hi
        have hlt : i < z.cps.size := by
          have := (List.getElem?_eq_some_iff.mp hc).1
          simpa using this
        refine ⟨hlt, fun y H' q => ?_⟩
        obtain ⟨e1, c', e2, e3⟩ := q
        refine ⟨e1, ?_⟩
        have e4 : z.cps[i]? = some c := by rw [← Array.getElem?_toList]; exact hc
        rw [e4] at e2
        cases e2
        rw [e3]
        exact .str _
    · show z.cps.size ≤ i
      simpa using hi
  | _ => exact h1.elim
def rngU (lo c : Int) (n : Nat) : List U := (List.range n).map fun (i : Nat) => U.int (lo + (i : Int) * c)
def aRng1 (fa : FA) : FA := fun d S => (fa d S).bind fun us S1 => match us with
  | [.int j] => guard (decide (-(2 ^ 62) ≤ j) && decide (j < 2 ^ 62)) (.ok (rngU 0 1 j.toNat) S1)
  | _ => .bad
theorem rng_get {lo c : Int} {n i : Nat} {u : U} (h : (rngU lo c n)[i]? = some u) : i < n ∧ u = .int (lo + (i : Int) * c) := by
  unfold rngU at h
  rw [List.getElem?_map] at h
  cases hr : (List.range n)[i]? with
  | none => rw [hr] at h; cases h
  | some k =>
    rw [hr] at h
    cases h
    obtain ⟨h1, h2⟩ := List.getElem?_eq_some_iff.mp hr
    rw [List.getElem_range] at h2
    subst h2
    exact ⟨by simpa using h1, rfl⟩
theorem it_range {K : KM} {w : Wd} (lo : Int) (n : Nat) : ItSim K w (Itr lo n) (rngU lo 1 n) := ItSim.same fun w' i x s => by
  refine ⟨fun u hu => ?_, fun h => (show n ≤ i by simpa [rngU] using h)⟩
  obtain ⟨h1, rfl⟩ := rng_get hu
  refine ⟨h1, fun y H' q => ⟨q.1, ?_⟩⟩
  rw [q.2, Int.mul_one]
  exact .int _
theorem si_range1 {a : Expr} {fa : FA} {p pos : Pos} (hg : Gl X "range") (hm : X.mg "range" = none) (ha : SimA X Wx [a] fa) (hs : starEach [a] X.env = [(false, eval a X.env)] := by rfl) : SimI X Wx tg (.Call (.Name "range" p) [a] [] pos) (aRng1 fa) := by
  obtain ⟨t, p, ha⟩ := ha.out
  refine ⟨_, pi_range1 hg hm p hs, fun w d σ Q s e h0 => ?_⟩
  refine ha w d σ _ s e ((Pst.of_bind h0).mono (fun us S1 h1 w1 vs eS st s1 rs => ?_) fun _ _ q => q)
  split at h1
  · obtain ⟨hl, h1⟩ := guard_post h1
    rw [Bool.and_eq_true] at hl
    cases rs with
    | cons r rs =>
      cases rs; cases r
      exact ⟨_, rfl, of_decide_eq_true hl.1, of_decide_eq_true hl.2, h1 w1 _ eS st s1 (it_range 0 _)⟩
  · exact h1.elim
end
end DL
namespace DL
open PySem PySem.Spec L2
section
variable {X : Cx} {Wx : WX} {pos : Pos} {tg iter elt c : Expr} {body : List Stmt}
def loopF (g : U → En → Option En) (f : FS) : List U → FS
  | [], d, S => .ok (.nx d) S
  | u :: us, d, S => match g u d with
    | none => .bad
    | some d1 => match f d1 S with
      | .ok (.nx d2) S1 => loopF g f us d2 S1
      | .ok (.ct d2) S1 => loopF g f us d2 S1
      | .ok (.bk d2) S1 => .ok (.nx d2) S1
      | r => r
def fFor (fi : FA) (g : U → En → Option En) (f : FS) : FS := fun d S => toS d (fi d S) fun us S1 => loopF g f us d S1
theorem drop_at {us : List U} {i : Nat} (h : i < us.length) : us.drop i = us[i] :: us.drop (i + 1) := List.drop_eq_getElem_cons h
theorem ss_for {fi : FA} {is : List Nat} {g : U → En → Option En} {f : FS} (hp : PassesOwn (model X.prog X.w) X.A X.env X.xe) (hc : X.calm = true) (hi : SimI X Wx tg iter fi) (hg : SimG X tg is g) (hb : SimB X Wx body f)
    (hs : ∀ x, foldedSetIterable iter X.env x = pure x := by intro _; rfl) : SimS X Wx (.For tg iter body [] pos) (fFor fi g f) := by
  obtain ⟨ti, pi, hi⟩ := hi
  obtain ⟨tg', pg, hg⟩ := hg.out
  obtain ⟨tb, pb, hb⟩ := hb.out
  refine SimS.mk (ps_for hp hc pi pg pb hs) (fun w d σ D s e h => ?_)
  refine hi w d σ _ s e ((toS_post s e h).mono (fun us S1 h1 w1 J eS st s1 it => ?_) fun _ _ q => q)
  subst eS
  refine ⟨fun i m σ' H => ∃ (w' : Wd) (d' : En), w'.H = H ∧ Stp w1 w' ∧ SR (KMof X) w' ∧ ER (KMof X) w' d' σ' ∧ m = us.length - i ∧ i ≤ us.length ∧ Pst (loopF g f (us.drop i) d' w'.S) (OkS X Wx w D) (fun _ _ => False),
    ⟨us.length, w1, d, rfl, Stp.refl w1, s1, e.ext st.x s, by simp, Nat.zero_le _, h1⟩, ?_⟩
  rintro i m σ' H ⟨w', d', rfl, st', s', e', rfl, hil, q⟩
  obtain ⟨it1, it2⟩ := it w' i st'.x s'
  by_cases hlt : i < us.length
  · rw [drop_at hlt] at q
    obtain ⟨go, yl⟩ := it1 us[i] (List.getElem?_eq_getElem hlt)
    refine .inr ⟨go, fun σ2 H2 => ∃ (w2 : Wd) (d2 : En), w2.H = H2 ∧ Stp w1 w2 ∧ SR (KMof X) w2 ∧ ER (KMof X) w2 d2 σ2 ∧ Pst (loopF g f (us.drop (i + 1)) d2 w2.S) (OkS X Wx w D) (fun _ _ => False), fun σ2 H2 ⟨w2, d2, e1, e2, e3, e4, e5⟩ => ⟨us.length - (i + 1), by omega, w2, d2, e1, e2, e3, e4, rfl, hlt, e5⟩, fun x H' y => ?_⟩
    obtain ⟨w2, rfl, eS2, st2, s2, rx⟩ := yl x H' y
    rw [← eS2] at q
    unfold loopF at q
    split at q
    · exact q.elim
    · rename_i d1 hd1
      refine hg w2 us[i] x d' d1 σ' _ s2 (e'.ext st2.x s') rx hd1 fun σ1 e1 _ => ?_
      refine hb w2 d1 σ1 _ s2 e1 ?_
      have st02 := st.trans (st'.trans st2)
      split at q
      · rename_i d2 S2 hf
        rw [hf]
        exact fun w3 eS3 st3 s3 σ3 e3 => ⟨w3, d2, rfl, (st'.trans st2).trans st3, s3, e3, by rw [eS3]; exact q⟩
      · rename_i d2 S2 hf
        rw [hf]
        exact fun w3 eS3 st3 s3 σ3 e3 => ⟨w3, d2, rfl, (st'.trans st2).trans st3, s3, e3, by rw [eS3]; exact q⟩
      · rename_i d2 S2 hf
        rw [hf]
        exact fun w3 eS3 st3 s3 σ3 e3 => q w3 eS3 (st02.trans st3) s3 σ3 e3
      · rename_i hn1 hn2 hn3
        cases hf : f d1 w2.S with
        | ok fl S2 =>
          rw [hf] at q
          cases fl with
          | nx d2 => exact absurd hf (hn1 d2 S2)
          | ct d2 => exact absurd hf (hn2 d2 S2)
          | bk d2 => exact absurd hf (hn3 d2 S2)
          | rt u => exact fun w3 eS3 st3 s3 v r => q w3 eS3 (st02.trans st3) s3 v r
          | ex x d2 => exact fun w3 eS3 st3 s3 σ3 e3 cls dd xr => q w3 eS3 (st02.trans st3) s3 σ3 e3 cls dd xr
        | exc x S => rw [hf] at q; exact q
        | bad => rw [hf] at q; exact q
  · have e0 : i = us.length := by omega
    subst e0
    rw [List.drop_length] at q
    exact .inl ⟨it2 (Nat.le_refl _), q w' rfl (st.trans st') s' σ' e'⟩
def whileF (fc : FT) (f : FS) : Nat → FS
  | 0, _, _ => .bad
  | n + 1, d, S => toS d (fc d S) fun b S1 => if b then
      match f d S1 with
      | .ok (.nx d2) S2 => whileF fc f n d2 S2
      | .ok (.ct d2) S2 => whileF fc f n d2 S2
      | .ok (.bk d2) S2 => .ok (.nx d2) S2
      | r => r
    else .ok (.nx d) S1
theorem ss_while (n : Nat) {fc : FT} {f : FS} (hp : PassesOwn (model X.prog X.w) X.A X.env X.xe) (hc : SimT X Wx c fc) (hb : SimB X Wx body f) : SimS X Wx (.While c body [] pos) (whileF fc f n) := by
  obtain ⟨tc, pc, hc⟩ := hc.out
  obtain ⟨tb, pb, hb⟩ := hb.out
  refine SimS.mk (ps_while hp pc pb) (fun w d σ D s e h => ?_)
  refine ⟨fun m σ' H => ∃ (w' : Wd) (d' : En), w'.H = H ∧ SR (KMof X) w' ∧ ER (KMof X) w' d' σ' ∧ Pst (whileF fc f m d' w'.S) (OkS X Wx w' D) (fun _ _ => False), ⟨n, w, d, rfl, s, e, h⟩, ?_⟩
  rintro m σ' H ⟨w', d', rfl, s', e', q⟩
  cases m with
  | zero => exact q.elim
  | succ m =>
    unfold whileF at q
    refine hc w' d' σ' _ s' e' ((toS_post s' e' q).mono (fun b S1 h1 w1 eS st1 s1 => ?_) fun _ _ z => z)
    subst eS
    cases b with
    | false => exact h1 w1 rfl st1 s1 σ' (e'.ext st1.x s')
    | true =>
      refine ⟨fun σ2 H2 => ∃ (w2 : Wd) (d2 : En), w2.H = H2 ∧ SR (KMof X) w2 ∧ ER (KMof X) w2 d2 σ2 ∧ Pst (whileF fc f m d2 w2.S) (OkS X Wx w2 D) (fun _ _ => False), fun σ2 H2 z => ⟨m, Nat.lt_succ_self m, z⟩, ?_⟩
      refine hb w1 d' σ' _ s1 (e'.ext st1.x s') ?_
      have h1 : Pst (match f d' w1.S with
          | .ok (.nx d2) S2 => whileF fc f m d2 S2
          | .ok (.ct d2) S2 => whileF fc f m d2 S2
          | .ok (.bk d2) S2 => .ok (.nx d2) S2
          | r => r) (OkS X Wx w' D) (fun _ _ => False) := h1
      split at h1
      · rename_i d2 S2 hf
        rw [hf]
        exact fun w3 eS3 st3 s3 σ3 e3 => ⟨w3, d2, rfl, s3, e3, by rw [eS3]; exact Pst.mono h1 (fun _ _ z => z.up (st1.trans st3)) fun _ _ z => z⟩
      · rename_i d2 S2 hf
        rw [hf]
        exact fun w3 eS3 st3 s3 σ3 e3 => ⟨w3, d2, rfl, s3, e3, by rw [eS3]; exact Pst.mono h1 (fun _ _ z => z.up (st1.trans st3)) fun _ _ z => z⟩
      · rename_i d2 S2 hf
        rw [hf]
        exact fun w3 eS3 st3 s3 σ3 e3 => h1 w3 eS3 (st1.trans st3) s3 σ3 e3
      · rename_i hn1 hn2 hn3
        cases hf : f d' w1.S with
        | ok fl S2 =>
          rw [hf] at h1
          cases fl with
          | nx d2 => exact absurd hf (hn1 d2 S2)
          | ct d2 => exact absurd hf (hn2 d2 S2)
          | bk d2 => exact absurd hf (hn3 d2 S2)
          | rt u => exact fun w3 eS3 st3 s3 v r => h1 w3 eS3 (st1.trans st3) s3 v r
          | ex x d2 => exact fun w3 eS3 st3 s3 σ3 e3 cls dd xr => h1 w3 eS3 (st1.trans st3) s3 σ3 e3 cls dd xr
        | exc x S => rw [hf] at h1; exact h1
        | bad => rw [hf] at h1; exact h1
abbrev W0 : WX := fun _ _ _ _ => False
def SimTs (X : Cx) (Wx : WX) (ifs : List Expr) (f : FT) : Prop := PTs X ifs (tT X Wx f)
def fYes : FT := fun _ S => .ok true S
theorem ts_nil : SimTs X Wx [] fYes := ⟨fun pins s σ H Q I ⟨w, d, e, sr, er, q⟩ => pts_nil.run pins s σ H Q I (by subst e; exact q w rfl (Stp.refl w) sr)⟩
theorem ts_one {f : FT} (h : SimT X Wx c f) : SimTs X Wx [c] f := pts_one h
def wipeE (d : En) : List Nat → En
  | [] => d
  | v :: vs => (wipeE d vs).set v none
theorem ER.wipe {K : KM} {w : Wd} {d : En} {σ : L2.St} (e : ER K w d σ) : ∀ vs : List Nat, ER K w (wipeE d vs) (L2.wipe σ vs)
  | [] => e
  | v :: vs => (ER.wipe e vs).forget v none
def compF (g : U → En → Option En) (ft : FT) (fe : FE) (d : En) : List U → List U → Sto → R (List U)
  | [], acc, S => .ok acc S
  | u :: us, acc, S => match g u d with
    | none => .bad
    | some d1 => match ft d1 S with
      | .ok true S1 => match fe d1 S1 with
        | .ok y S2 => guard (decide (acc.length < sizeLine)) (compF g ft fe d us (acc ++ [y]) S2)
        | _ => .bad
      | .ok false S1 => compF g ft fe d us acc S1
      | _ => .bad
def aComp (fi : FA) (g : U → En → Option En) (ft : FT) (fe : FE) (vs : List Nat) : FA := fun d S => (fi d S).bind fun us S1 => compF g ft fe (wipeE d vs) us [] S1
theorem comp_core {wi : TI} {fi : FA} {is vs : List Nat} {g : U → En → Option En} {ft : FT} {fe : FE}
    (hi : ∀ (w : Wd) (d : En) (σ : L2.St) (Q : It → Hp → Prop), SR (KMof X) w → ER (KMof X) w d σ → Pst (fi d w.S) (OkI X w Q) (XPost X Wx σ w) → wi σ w.H Q) (hv : ∀ i ∈ is, i ∈ vs)
    (w : Wd) (d : En) (σ : L2.St) (Q : VK) (s : SR (KMof X) w) (e : ER (KMof X) w d σ) (h : Pst (aComp fi g ft fe vs d w.S) (OkL X w Q) (XPost X Wx σ w)) : tLc wi (tG X is g) (tT X W0 ft) (tE X W0 fe) vs σ w.H Q := by
  refine hi w d σ _ s e ((Pst.of_bind h).mono (fun us S1 h1 w1 J eS st s1 it => ?_) fun _ _ q => q)
  subst eS
  intro D hD
  have nD : D ∉ w1.r := fun z => s1.tracked (.inl z) hD
  have noE : ∀ (us acc : List U) (S : Sto), Pst (compF g ft fe (wipeE d vs) us acc S) (OkL X w Q) (XPost X Wx σ w) → Pst (compF g ft fe (wipeE d vs) us acc S) (OkL X w Q) (fun _ _ => False) := fun us => by
    induction us with
    | nil => intro acc S h; exact h
    | cons u us ih =>
      intro acc S h
      unfold compF at h ⊢
      split at h
      · exact h.elim
      · split at h
        · split at h
          · obtain ⟨hl, h⟩ := guard_post h
            rw [hl]
            exact ih _ _ h
          · exact h.elim
        · exact ih _ _ h
        · exact h.elim
  refine ⟨fun i m H => ∃ (w' : Wd) (acc : List U) (xs : List V), w'.H = H ∧ Ext w1 w' ∧ (∀ a ∈ w1.r, w'.H a = w1.H a) ∧ SR (KMof X) w' ∧ w'.r = D :: w1.r ∧ w'.H D = some (.lst xs) ∧ VRs (KMof X) w' acc xs ∧ m = us.length - i ∧ i ≤ us.length ∧
      Pst (compF g ft fe (wipeE d vs) (us.drop i) acc w'.S) (OkL X w Q) (fun _ _ => False),
    ⟨us.length, w1.hold D (.lst []), [], [], rfl, Ext.hold s1 hD, fun a ha => ?_, s1.hold hD (.inl ⟨_, rfl⟩), rfl, upd_same, .nil, by simp, Nat.zero_le _, noE us [] w1.S h1⟩, ?_⟩
  · show upd w1.H D _ a = w1.H a
    rw [upd_ne fun z => nD (by rw [← z]; exact ha)]
  rintro i m H ⟨w', acc, xs, rfl, x1, k1, s', er, eD, rs, rfl, hil, q⟩
  have hDr : D ∈ w'.r := by rw [er]; exact List.mem_cons_self
  obtain ⟨it1, it2⟩ := it w' i x1 s'
  by_cases hlt : i < us.length
  · rw [drop_at hlt] at q
    obtain ⟨go, yl⟩ := it1 us[i] (List.getElem?_eq_getElem hlt)
    refine .inr ⟨go, fun H2 => ∃ (w2 : Wd) (acc2 : List U) (xs2 : List V), w2.H = H2 ∧ Ext w1 w2 ∧ (∀ a ∈ w1.r, w2.H a = w1.H a) ∧ SR (KMof X) w2 ∧ w2.r = D :: w1.r ∧ w2.H D = some (.lst xs2) ∧ VRs (KMof X) w2 acc2 xs2 ∧ Pst (compF g ft fe (wipeE d vs) (us.drop (i + 1)) acc2 w2.S) (OkL X w Q) (fun _ _ => False),
      fun H2 ⟨w2, acc2, xs2, e1, e2, e3, e4, e5, e6, e7, e8⟩ => ⟨us.length - (i + 1), by omega, w2, acc2, xs2, e1, e2, e3, e4, e5, e6, e7, rfl, hlt, e8⟩, fun x H' y => ?_⟩
    obtain ⟨w2, rfl, eS2, st2, s2, rx⟩ := yl x H' y
    rw [← eS2] at q
    have sub : ∀ a ∈ w1.r, a ∈ w'.r := fun a ha => by rw [er]; exact List.mem_cons_of_mem _ ha
    -- later worlds
    have later : ∀ {w3 : Wd}, Stp w' w3 → SR (KMof X) w3 → Ext w1 w3 ∧ (∀ a ∈ w1.r, w3.H a = w1.H a) ∧ w3.r = D :: w1.r ∧ w3.H D = some (.lst xs) ∧ VRs (KMof X) w3 acc xs := fun {w3} st3 s3 =>
      ⟨x1.trans st3.x, fun a ha => (st3.k a (sub a ha)).trans (k1 a ha), st3.r.trans er, (st3.k D hDr).trans eD, rs.ext st3.x s'⟩
    unfold compF at q
    split at q
    · exact q.elim
    · rename_i d1 hd1
      have e2 : ER (KMof X) w2 (wipeE d vs) (L2.wipe σ vs) := (((e.ext st.x s).ext x1 s1).ext st2.x s').wipe vs
      refine ⟨w2, us[i], wipeE d vs, d1, rfl, s2, e2, rx, hd1, fun σ2 eσ kσ => ⟨?_, ?_⟩⟩
      · have hk := kσ vs hv
        have ww : ∀ σ : L2.St, L2.wipe (L2.wipe σ vs) vs = L2.wipe σ vs := fun σ => by
          refine List.ext_getElem? fun j => ?_
          rw [wipe_get, wipe_get, wipe_length]
          split <;> rfl
        rw [hk, ww]
      · refine ⟨w2, d1, rfl, s2, eσ, ?_⟩
        split at q
        · rename_i S3 ht
          rw [ht]
          intro w3 eS3 st3 s3
          rw [← eS3] at q
          split at q
          · rename_i y4 S4 hy
            refine ⟨w3, d1, rfl, s3, eσ.ext st3.x s2, ?_⟩
            rw [hy]
            intro w4 v4 eS4 st4 s4 r4
            rw [← eS4] at q
            obtain ⟨hl, q⟩ := guard_post q
            have st34 := (st2.trans st3).trans st4
            obtain ⟨l1, l2, l3, l4, l5⟩ := later st34 s4
            have hD4 : D ∈ w4.r := by rw [l3]; exact List.mem_cons_self
            refine ⟨xs, l4, by rw [← rs.length]; exact of_decide_eq_true hl, w4.grow D (xs ++ [v4]), acc ++ [y4], xs ++ [v4], rfl, l1.trans (Ext.grow hD4), fun a ha => ?_, s4.grow hD4, l3, upd_same, (l5.snoc r4).ext (Ext.grow hD4) s4, q⟩
            show upd w4.H D _ a = w1.H a
            rw [upd_ne fun z => nD (by rw [← z]; exact ha)]
            exact l2 a ha
          · exact q.elim
        · rename_i S3 ht
          rw [ht]
          intro w3 eS3 st3 s3
          rw [← eS3] at q
          obtain ⟨l1, l2, l3, l4, l5⟩ := later (st2.trans st3) s3
          exact ⟨w3, acc, xs, rfl, l1, l2, s3, l3, l4, l5, q⟩
        · exact q.elim
  · have e0 : i = us.length := by omega
    subst e0
    rw [List.drop_length] at q
    refine .inl ⟨it2 (Nat.le_refl _), ?_⟩
    have hq := q (w'.cut D) D xs rfl ⟨(st.x.trans (x1.cut hD)), ?_, fun a ha => ?_⟩ (s'.cut hDr) (rs.cut s' (.inl hDr)) cut_D
    · rw [cut_back eD] at hq
      exact hq
    · show w'.r.filter _ = w.r
      rw [er, let_go_r nD]
      exact st.r
    · have ha1 : a ∈ w1.r := by rw [st.r]; exact ha
      rw [cut_at fun z => nD (by rw [← z]; exact ha1), k1 a ha1]
      exact st.k a ha
section
variable {ifs : List Expr} {scope : Scope} {own : List (Str × Nat)} {fi : FA} {is vs : List Nat} {g : U → En → Option En} {ft : FT} {fe : FE}
theorem sl_comp (hc : X.calm = true) (hN : X.N.Nodup) (hi : SimI X Wx tg iter fi) (ok : BlkOk X.N X.env.scope scope own)
    (hg : ∀ (s : Shared) (H : Hp) (C : Addr) (cl : List (Str × Addr)) (fp : List Addr), SimG (X.blk s H scope (compEnvC scope cl C X.env) fp) tg is g)
    (ht : ∀ (s : Shared) (H : Hp) (C : Addr) (cl : List (Str × Addr)) (fp : List Addr), SimTs (X.blk s H scope (compEnvC scope cl C X.env) fp) W0 ifs ft)
    (he : ∀ (s : Shared) (H : Hp) (C : Addr) (cl : List (Str × Addr)) (fp : List Addr), SimE (X.blk s H scope (compEnvC scope cl C X.env) fp) W0 elt fe)
    (hvs : own.map (·.2) = vs := by rfl) (hv : ∀ i ∈ is, i ∈ vs := by decide) (hs : ∀ x, foldedSetIterable iter X.env x = pure x := by intro _; rfl) :
    SimL X Wx (.ListComp elt [⟨tg, iter, ifs, 0⟩] scope pos) (aComp fi g ft fe vs) := by
  subst hvs
  obtain ⟨ti, pi, hi⟩ := hi
  exact SimL.mk (pe_lc (g := tG X is g) (tt := tT X W0 ft) (te := tE X W0 fe) hc hN pi ok hg ht he hs) (fun w d σ Q s e h => comp_core hi hv w d σ Q s e h)
theorem ss_setComp (i : Nat) {y : Str} {py spos : Pos} (hc : X.calm = true) (hN : X.N.Nodup) (hy : X.N[i]? = some y) (hyl : X.env.scope.names.lookup y = some .local)
    (hsw : swapsWith (.ListComp elt [⟨tg, iter, ifs, 0⟩] scope pos) (some (.Name y py)) spos.line X.env = pure true) (hi : SimI X Wx tg iter fi) (ok : BlkOk X.N X.env.scope scope own)
    (hg : ∀ (s : Shared) (H : Hp) (C : Addr) (cl : List (Str × Addr)) (fp : List Addr), SimG (X.blk s H scope (compEnvC scope cl C X.env) fp) tg is g)
    (ht : ∀ (s : Shared) (H : Hp) (C : Addr) (cl : List (Str × Addr)) (fp : List Addr), SimTs (X.blk s H scope (compEnvC scope cl C X.env) fp) W0 ifs ft)
    (he : ∀ (s : Shared) (H : Hp) (C : Addr) (cl : List (Str × Addr)) (fp : List Addr), SimE (X.blk s H scope (compEnvC scope cl C X.env) fp) W0 elt fe)
    (hvs : own.map (·.2) = vs := by rfl) (hv : ∀ i ∈ is, i ∈ vs := by decide) (hs : ∀ x, foldedSetIterable iter X.env x = pure x := by intro _; rfl) :
    SimS X Wx (.Assign [.Name y py] (.ListComp elt [⟨tg, iter, ifs, 0⟩] scope pos) spos) (fSet i (fVal (aComp fi g ft fe vs))) ∧
    SimS X Wx (.Assign [.Name y py] (.ListComp elt [⟨tg, iter, ifs, 0⟩] scope pos) spos) (fSet i (fLoc (aComp fi g ft fe vs))) := by
  subst hvs
  obtain ⟨ti, pi, hi⟩ := hi
  have hp := ps_setLc (g := tG X is g) (tt := tT X W0 ft) (te := tE X W0 fe) hc hN hy hyl hsw pi ok hg ht he hs
  refine ⟨SimS.mk hp (fun w d σ D s e h => ?_), SimS.mk hp (fun w d σ D s e h => ?_)⟩
  · refine comp_core hi hv w d σ _ s e ((Pst.of_bind (toS_post s e h)).mono (fun us S1 h1 w1 p xs eS st s1 rs hp => ?_) fun _ _ q => q)
    subst eS
    have st1 := Stp.new s1 (o := .lst xs) hp
    exact h1 (w1.new p (.lst xs)) rfl (st.trans st1) (s1.new hp) _ (((e.ext st.x s).ext st1.x s1).set i (.lst upd_same (fun q => s1.tracked q hp) (rs.ext st1.x s1)))
  · refine comp_core hi hv w d σ _ s e ((Pst.of_bind (toS_post s e h)).mono (fun us S1 h1 w1 p xs eS st s1 rs hp => ?_) fun _ _ q => q)
    subst eS
    have st1 := Stp.push s1 (o := .lst xs) (b := .lst us) hp
    refine h1 (w1.push p (.lst xs) (.lst us)) rfl (st.trans st1) (s1.push hp ⟨xs, upd_same, rs.ext st1.x s1⟩) _ (((e.ext st.x s).ext st1.x s1).set i (.loc ?_))
    show (w1.m ++ [p])[w1.S.length]? = some p
    rw [← s1.len]
    simp
end
end
end DL
namespace DL
open PySem PySem.Spec L2
def hasK (ks : List Key) (k : Key) : Bool := ks.any fun j => decide (j = k)
def replU : List Key → List U → Key → U → List U
  | j :: ks, y :: us, k, u => (if j = k then u else y) :: replU ks us k u
  | _, _, _, _ => []
def putU (ks : List Key) (us : List U) (k : Key) (u : U) : List Key × List U := if hasK ks k then (ks, replU ks us k u) else (ks ++ [k], us ++ [u])
section
variable {K : KM} {w : Wd}
theorem zip_any {k : Key} : ∀ {ks : List Key} {xs : List V}, ks.length = xs.length → ((ks.zip xs).any fun kv => decide (kv.1 = k)) = hasK ks k
  | [], _, _ => rfl
  | j :: ks, [], h => by rw [List.length_cons, List.length_nil] at h; omega
  | j :: ks, x :: xs, h => by
    rw [List.zip_cons_cons, List.any_cons, zip_any (ks := ks) (xs := xs) (by simpa using h)]
    rfl
theorem repl_ok {k : Key} {u : U} {v : V} (r : VR K w u v) : ∀ {ks : List Key} {us : List U} {xs : List V}, ks.length = us.length → VRs K w us xs →
    ∃ xs', (ks.zip xs).map (fun kv => if kv.1 = k then (kv.1, v) else kv) = ks.zip xs' ∧ VRs K w (replU ks us k u) xs' ∧ (replU ks us k u).length = ks.length
  | [], us, xs, h, rs => by
    cases us with
    | nil => exact ⟨[], by rw [List.zip_nil_left, List.zip_nil_left]; rfl, .nil, rfl⟩
    | cons y us => rw [List.length_cons, List.length_nil] at h; omega
  | j :: ks, us, xs, h, rs => by
    cases rs with
    | nil => rw [List.length_cons, List.length_nil] at h; omega
    | @cons y us x xs ry rs =>
      obtain ⟨xs', e, rs', l⟩ := repl_ok r (ks := ks) (by simpa using h) rs
      rw [List.zip_cons_cons, List.map_cons, e]
      by_cases hj : j = k
      · refine ⟨v :: xs', by rw [if_pos hj, List.zip_cons_cons], ?_, ?_⟩
        · show VRs K w ((if j = k then u else y) :: replU ks us k u) (v :: xs')
          rw [if_pos hj]; exact .cons r rs'
        · show ((if j = k then u else y) :: replU ks us k u).length = _
          rw [List.length_cons, List.length_cons, l]
      · refine ⟨x :: xs', by rw [if_neg hj, List.zip_cons_cons], ?_, ?_⟩
        · show VRs K w ((if j = k then u else y) :: replU ks us k u) (x :: xs')
          rw [if_neg hj]; exact .cons ry rs'
        · show ((if j = k then u else y) :: replU ks us k u).length = _
          rw [List.length_cons, List.length_cons, l]
theorem put_ok {k : Key} {u : U} {v : V} (r : VR K w u v) {ks : List Key} {us : List U} {xs : List V} (l : ks.length = us.length) (rs : VRs K w us xs) :
    ∃ xs', putK (ks.zip xs) k v = (putU ks us k u).1.zip xs' ∧ VRs K w (putU ks us k u).2 xs' ∧ (putU ks us k u).1.length = (putU ks us k u).2.length := by
  unfold putK putU
  rw [zip_any (by rw [l, rs.length])]
  cases hasK ks k with
  | true =>
    obtain ⟨xs', e, rs', l'⟩ := repl_ok (k := k) r l rs
    exact ⟨xs', e, rs', l'.symm⟩
  | false =>
    refine ⟨xs ++ [v], ?_, rs.snoc r, ?_⟩
    · show ks.zip xs ++ [(k, v)] = (ks ++ [k]).zip (xs ++ [v])
      rw [List.zip_append (by rw [l, rs.length])]
      rfl
    · show (ks ++ [k]).length = (us ++ [u]).length
      simp [l]
def mergeU (acc : List Key × List U) : List (Key × U) → List Key × List U
  | [] => acc
  | (k, u) :: r => mergeU (putU acc.1 acc.2 k u) r
theorem merge_ok : ∀ {ps : List (Key × U)} {vs : List V} {ks : List Key} {us : List U} {xs : List V}, VRs K w (ps.map (·.2)) vs → ks.length = us.length → VRs K w us xs →
    ∃ xs', mergeK (ks.zip xs) ((ps.map (·.1)).zip vs) = (mergeU (ks, us) ps).1.zip xs' ∧ VRs K w (mergeU (ks, us) ps).2 xs' ∧ (mergeU (ks, us) ps).1.length = (mergeU (ks, us) ps).2.length
  | [], _, ks, us, xs, .nil, l, rs => ⟨xs, rfl, rs, l⟩
  | (k, u) :: ps, v :: vs, ks, us, xs, .cons r rr, l, rs => by
    obtain ⟨xs1, e1, r1, l1⟩ := put_ok (k := k) r l rs
    obtain ⟨xs2, e2, r2, l2⟩ := merge_ok rr l1 r1
    refine ⟨xs2, ?_, r2, l2⟩
    show mergeK (putK (ks.zip xs) k v) ((ps.map (·.1)).zip vs) = _
    rw [e1]
    exact e2
end
section
variable {X : Cx} {Wx : WX}
abbrev FD := En → Sto → R (List Key × List U)
def OkD (X : Cx) (w : Wd) (Q : VK) (p : List Key × List U) (S' : Sto) : Prop :=
  ∀ (w' : Wd) (a : Addr) (xs : List V), w'.S = S' → Stp w w' → SR (KMof X) w' → p.1.length = p.2.length → VRs (KMof X) w' p.2 xs → w'.H a = none → Q (.ref a) (upd w'.H a (.dK (p.1.zip xs)))
theorem OkD.up {w w1 : Wd} {Q : VK} {u : List Key × List U} {S' : Sto} (h : OkD X w Q u S') (st : Stp w w1) : OkD X w1 Q u S' := fun w' p xs e s2 sr l r hp => h w' p xs e (st.trans s2) sr l r hp
def SimD (X : Cx) (Wx : WX) (e : Expr) (f : FD) : Prop := PE X e (fun σ H Q => ∃ (w : Wd) (d : En), w.H = H ∧ SR (KMof X) w ∧ ER (KMof X) w d σ ∧ Pst (f d w.S) (OkD X w Q) (XPost X Wx σ w))
theorem SimD.mk {e : Expr} {f : FD} {t : TE} (p : PE X e t) (h : ∀ (w : Wd) (d : En) (σ : L2.St) (Q : VK), SR (KMof X) w → ER (KMof X) w d σ → Pst (f d w.S) (OkD X w Q) (XPost X Wx σ w) → t σ w.H Q) : SimD X Wx e f :=
  ⟨fun pins s σ H Q I ⟨w, d, e, sr, er, q⟩ => p.run pins s σ H Q I (by subst e; exact h w d σ Q sr er q)⟩
def fDval (g : FD) : FE := fun d S => (g d S).bind fun p S1 => .ok (.dic p.1 p.2) S1
def fDloc (g : FD) : FE := fun d S => (g d S).bind fun p S1 => .ok (.loc S1.length) (S1 ++ [.dic p.1 p.2])
theorem SimD.val {e : Expr} {g : FD} (h : SimD X Wx e g) : SimE X Wx e (fDval g) := by
  refine SimE.mk h (fun w d σ Q s e h0 => ⟨w, d, rfl, s, e, (Pst.of_bind h0).mono (fun p S1 h1 w1 a xs eS st s1 l rs hp => ?_) fun _ _ q => q⟩)
  subst eS
  have st1 := Stp.new s1 (o := .dK (p.1.zip xs)) hp
  exact h1 (w1.new a _) (.ref a) rfl (st.trans st1) (s1.new hp) (.dic upd_same (fun q => s1.tracked q hp) l (rs.ext st1.x s1))
theorem SimD.loc {e : Expr} {g : FD} (h : SimD X Wx e g) : SimE X Wx e (fDloc g) := by
  refine SimE.mk h (fun w d σ Q s e h0 => ⟨w, d, rfl, s, e, (Pst.of_bind h0).mono (fun p S1 h1 w1 a xs eS st s1 l rs hp => ?_) fun _ _ q => q⟩)
  subst eS
  have st1 := Stp.push s1 (o := .dK (p.1.zip xs)) (b := .dic p.1 p.2) hp
  refine h1 (w1.push a _ (.dic p.1 p.2)) (.ref a) rfl (st.trans st1) (s1.push hp ⟨xs, upd_same, l, rs.ext st1.x s1⟩) (.loc ?_)
  show (w1.m ++ [a])[w1.S.length]? = some a
  rw [← s1.len]
  simp
variable {pos : Pos}
def evalP : List (FE × FE) → En → Sto → R (List (Key × U))
  | [], _, S => .ok [] S
  | (fk, fv) :: r, d, S => match fk d S with
    | .ok x S1 => match fv d S1 with
      | .ok y S2 => match evalP r d S2 with
        | .ok ps S3 => match keyU x with
          | some k => .ok ((k, y) :: ps) S3
          | none => .bad
        | _ => .bad
      | _ => .bad
    | _ => .bad
def SimP (X : Cx) (Wx : WX) (pos : Pos) (keys : List (Option Expr)) (values : List Expr) (fs : List (FE × FE)) : Prop := PPs X pos keys values (fs.map fun p => (tE X Wx p.1, tE X Wx p.2))
theorem sp_nil : SimP X Wx pos [] [] [] := pps_nil
theorem sp_cons {k v : Expr} {ks : List (Option Expr)} {vs : List Expr} {fk fv : FE} {fs : List (FE × FE)} (hk : SimE X Wx k fk) (hv : SimE X Wx v fv) (hr : SimP X Wx pos ks vs fs) : SimP X Wx pos (some k :: ks) (v :: vs) ((fk, fv) :: fs) := pps_cons hk hv hr
theorem evalP_ok : ∀ {fs : List (FE × FE)} {w : Wd} {d : En} {σ : L2.St} {Q : List (V × V) → Hp → Prop}, SR (KMof X) w → ER (KMof X) w d σ →
    Pst (evalP fs d w.S) (fun ps S' => ∀ (w' : Wd) (vs : List V), w'.S = S' → Stp w w' → SR (KMof X) w' → VRs (KMof X) w' (ps.map (·.2)) vs → Q (((ps.map (·.1)).map kV).zip vs) w'.H) (fun _ _ => False) → tPairs (fs.map fun p => (tE X Wx p.1, tE X Wx p.2)) σ w.H Q
  | [], w, d, σ, Q, s, e, h => h w [] rfl (Stp.refl w) s .nil
  | (fk, fv) :: r, w, d, σ, Q, s, e, h => by
    unfold evalP at h
    split at h
    · rename_i x S1 hx
      refine ⟨w, d, rfl, s, e, ?_⟩
      show Pst (fk d w.S) _ _
      rw [hx]
      intro w1 v1 eS1 st1 s1 r1
      rw [← eS1] at h
      split at h
      · rename_i y S2 hy
        refine ⟨w1, d, rfl, s1, e.ext st1.x s, ?_⟩
        show Pst (fv d w1.S) _ _
        rw [hy]
        intro w2 v2 eS2 st2 s2 r2
        rw [← eS2] at h
        refine evalP_ok (d := d) s2 ((e.ext st1.x s).ext st2.x s1) ?_
        split at h
        · rename_i ps S3 hp
          rw [hp]
          intro w3 vs eS3 st3 s3 rs
          split at h
          · rename_i k hk
            have hv1 := keyU_ok r1 hk
            have h3 := h w3 (v2 :: vs) eS3 ((st1.trans st2).trans st3) s3 (.cons (r2.ext st3.x s2) rs)
            rw [hv1]
            exact h3
          · exact h.elim
        · exact h.elim
      · exact h.elim
    · exact h.elim
def dDisp (fs : List (FE × FE)) : FD := fun d S => match evalP fs d S with
  | .ok ps S1 => guard (decide (ps.length ≤ 15)) (.ok (mergeU ([], []) ps) S1)
  | _ => .bad
theorem sd_disp {keys : List (Option Expr)} {values : List Expr} {fs : List (FE × FE)} (h : SimP X Wx pos keys values fs) (hall : keys.all (·.isSome) = true := by rfl) (hl : keys.length = values.length := by rfl) (h0 : keys ≠ [] := by intro z; cases z)
    (hn : keys.length ≤ 15 := by decide) : SimD X Wx (.Dict keys values pos) (dDisp fs) := by
  refine SimD.mk (pe_disp h hall hl h0 hn) (fun w d σ Q s e h => ?_)
  intro p hp
  have sh := s.hold (o := .dK []) hp (.inr ⟨_, rfl⟩)
  have xh := Ext.hold s (o := .dK []) hp
  have np : p ∉ w.r := fun z => s.tracked (.inl z) hp
  refine evalP_ok (w := w.hold p (.dK [])) (d := d) sh (e.ext xh s) ?_
  show Pst (evalP fs d w.S) _ _
  unfold dDisp at h
  split at h
  · rename_i ps S1 hps
    rw [hps]
    obtain ⟨hlen, h⟩ := guard_post h
    intro w1 vs eS st1 s1 rs
    have hpr : p ∈ w1.r := by rw [st1.r]; exact List.mem_cons_self
    have ep : w1.H p = some (.dK []) := (st1.k p List.mem_cons_self).trans upd_same
    refine ⟨ep, (ps.map (·.1)).zip vs, ?_, ?_, ?_⟩
    · have : ∀ (ks : List Key) (vs : List V), (ks.map kV).zip vs = (ks.zip vs).map fun kv => (kV kv.1, kv.2) := fun ks => by
        induction ks with
        | nil => intro vs; rfl
        | cons k ks ih =>
          intro vs
          cases vs with
          | nil => rfl
          | cons v vs => rw [List.map_cons, List.zip_cons_cons, List.zip_cons_cons, List.map_cons, ih]
      exact this _ _
    · rw [List.length_zip, List.length_map]
      exact Nat.le_trans (Nat.min_le_left _ _) (of_decide_eq_true hlen)
    · obtain ⟨xs', em, rm, lm⟩ := merge_ok (ks := []) (us := []) (xs := []) (rs.cut s1 (.inl hpr)) rfl .nil
      have em' : mergeK [] ((ps.map (·.1)).zip vs) = (mergeU ([], []) ps).1.zip xs' := em
      rw [em']
      have hq := h (w1.cut p) p xs' eS ⟨(xh.trans st1.x).cut hp, ?_, fun a ha => ?_⟩ (s1.cut hpr) lm rm cut_D
      · have hb : upd (w1.cut p).H p (.dK ((mergeU ([], []) ps).1.zip xs')) = upd w1.H p (.dK ((mergeU ([], []) ps).1.zip xs')) := by
          funext b
          by_cases eb : b = p
          · subst eb; rw [upd_same, upd_same]
          · rw [upd_ne eb, upd_ne eb, cut_at eb]
        rw [hb] at hq
        exact hq
      · show w1.r.filter _ = w.r
        rw [st1.r]
        exact let_go_r np
      · rw [cut_at fun z => np (by rw [← z]; exact ha), st1.k a (List.mem_cons_of_mem _ ha)]
        show upd w.H p _ a = w.H a
        rw [upd_ne fun z => np (by rw [← z]; exact ha)]
  · exact h.elim
def stU (o i v : U) (S : Sto) : Option Sto := match o with
  | .loc n => match S[n]? with
    | some (.lst us) => match i with
      | .int k => (ixN us.length k).map fun j => S.set n (.lst (us.set j v))
      | _ => none
    | some (.dic ks us) => match keyU i with
      | some k => if ks.length < sizeLine then some (S.set n (.dic (putU ks us k v).1 (putU ks us k v).2)) else none
      | none => none
    | _ => none
  | _ => none
theorem set_any (hu : X.A.units + 1 < cLine) : PSet X (fun o i v H Q => rSetL o i v H Q ∨ ∃ a H', o = .ref a ∧ DPut H a i v H' ∧ Q H') := by
  intro pins s σ H o i v ov iv u Q I ro ri rv h
  rcases h with h | ⟨a, H', rfl, g, q⟩
  · exact set_list pins s σ H o i v ov iv u Q I ro ri rv h
  · cases ro
    exact d_setItem hu I g ri rv fun s' I' => ⟨H', I', q⟩
def fStore (fe fo fi : FE) : FS := fun d S => toS d (fe d S) fun v S1 => toS d (fo d S1) fun o S2 => toS d (fi d S2) fun i S3 => match stU o i v S3 with
  | some S4 => .ok (.nx d) S4
  | none => .bad
theorem ss_store {e o i : Expr} {fe fo fi : FE} {p2 : Pos} (hu : X.A.units + 1 < cLine) (he : SimE X Wx e fe) (ho : SimE X Wx o fo) (hi : SimE X Wx i fi)
    (ha : ∀ v, assign (.Subscript o i p2) X.env v = (do
      let ov ← holding [v] (eval o X.env)
      let iv ← holding [v, ov] (eval i X.env)
      standAt p2
      holding [v, ov, iv] (setItem ov iv v)
      release [v, ov, iv] []) := by intro _; rfl)
    (hs : swapsWithSole [.Subscript o i p2] e pos.line X.env = pure false := by rfl) (hw : swappedStores [.Subscript o i p2] e X.env = pure none := by rfl)
    (h1 : (assignEach [.Subscript o i p2] X.env).map (·.2) = [assign (.Subscript o i p2) X.env] := by rfl) : SimS X Wx (.Assign [.Subscript o i p2] e pos) (fStore fe fo fi) := by
  obtain ⟨te, pe, he⟩ := he.out
  obtain ⟨to, po, ho⟩ := ho.out
  obtain ⟨ti, pi, hi⟩ := hi.out
  refine SimS.mk (ps_asg pe (pg_sub po pi (set_any hu) ha) hs hw h1) (fun w d σ D s e h => ?_)
  refine he w d σ _ s e ((toS_post s e h).mono (fun v S1 h1 w1 vv eS st s1 rv => ?_) fun _ _ q => q)
  subst eS
  have e1 := e.ext st.x s
  refine ho w1 d σ _ s1 e1 ((toS_post s1 e1 (Pst.mono h1 (fun _ _ q => q.up st) fun _ _ q => q)).mono (fun ou S2 h2 w2 vo eS2 st2 s2 ro => ?_) fun _ _ q => q)
  subst eS2
  have e2 := e1.ext st2.x s1
  refine hi w2 d σ _ s2 e2 ((toS_post s2 e2 (Pst.mono h2 (fun _ _ q => q.up st2) fun _ _ q => q)).mono (fun iu S3 h3 w3 vi eS3 st3 s3 ri => ?_) fun _ _ q => q)
  subst eS3
  have ro3 := ro.ext st3.x s2
  have rv3 := (rv.ext st2.x s1).ext st3.x s2
  have e3 := e2.ext st3.x s2
  have fin : ∀ {w4 : Wd}, Stp w3 w4 → SR (KMof X) w4 → OkS X Wx w2 D (.nx d) w4.S → D.nx σ w4.H := fun {w4} st4 s4 q => q w4 rfl (st3.trans st4) s4 σ (e3.ext st4.x s3)
  split at h3
  · rename_i S4 hS4
    unfold stU at hS4
    split at hS4
    · rename_i n
      cases ro3 with
      | @loc _ a hm =>
        split at hS4
        · rename_i us hS
          split at hS4
          · rename_i k
            cases ri
            cases hj : ixN us.length k with
            | none => rw [hj] at hS4; cases hS4
            | some j =>
              rw [hj] at hS4
              cases hS4
              obtain ⟨xs, q, rs⟩ := s3.obj n a _ hm hS
              have st4 : Stp w3 (w3.put n a (.lst (xs.set j vv)) (.lst (us.set j v))) := Stp.put s3 hm hS (by intro z; cases z)
              exact .inl ⟨a, xs, k, j, rfl, rfl, q, by rw [← rs.length]; exact hj, fin st4 (s3.put hm hS (by intro z; cases z) ⟨_, upd_same, (rs.set rv3 j).ext st4.x s3⟩) h3⟩
          · cases hS4
        · rename_i ks us hS
          split at hS4
          · rename_i k hk
            split at hS4
            · rename_i hl
              cases hS4
              obtain ⟨xs, q, l, rs⟩ := s3.obj n a _ hm hS
              rw [keyU_ok ri hk]
              obtain ⟨xs', ep, rs', l'⟩ := put_ok (k := k) rv3 l rs
              have st4 : Stp w3 (w3.put n a (.dK ((putU ks us k v).1.zip xs')) (.dic (putU ks us k v).1 (putU ks us k v).2)) := Stp.put s3 hm hS (by intro z; cases z)
              refine .inr ⟨a, _, rfl, DPut.k q (by rw [zip_len l rs]; exact hl), ?_⟩
              rw [ep]
              exact fin st4 (s3.put hm hS (by intro z; cases z) ⟨_, upd_same, l', rs'.ext st4.x s3⟩) h3
            · cases hS4
          · cases hS4
        · cases hS4
    · cases hS4
  · exact h3.elim
end
end DL
namespace DL
open PySem PySem.Spec L2
def fB (f : FE) : FT := fun d S => asB (f d S)
def fNever : FS := fun _ _ => .bad
section
variable {X : Cx} {Wx : WX} {pos : Pos}
theorem se_ty (n : String) {x : Str} (hg : Gl X x) (hm : X.mg x = none) (hv : bootBuiltins x = some (.type n)) (hn : x ≠ "__name__" := by decide) (hd : (x == ("__debug__" : Str)) = false := by decide) : SimE X Wx (.Name x pos) (fC (.ty n)) :=
  se_bltn hg hm hv (v := .ty n) rfl (fun _ => .ty n) hn hd
inductive TabOk (K : PySem.W.Frag) : List DictEntry → List (Str × U) → Prop
  | nil : TabOk K [] []
  | cons {e : DictEntry} {es : List DictEntry} {k : Str} {t : Tok} {v : V} {u : U} {tab : List (Str × U)} : e.key = .str k t → RelV v e.val → (∀ w mg P wd, VR ⟨K, mg, P, wd⟩ w u v) → TabOk K es tab → TabOk K (e :: es) ((k, u) :: tab)
theorem TabOk.i {K : PySem.W.Frag} {e : DictEntry} {es : List DictEntry} {k : Str} {t tk : Tok} {i : Int} {tab : List (Str × U)} (hk : e.key = .str k t) (hv : e.val = .int i tk) (r : TabOk K es tab) : TabOk K (e :: es) ((k, .int i) :: tab) := .cons hk (v := .int i) ⟨tk, hv⟩ (fun _ _ _ _ => .int i) r
theorem TabOk.s {K : PySem.W.Frag} {e : DictEntry} {es : List DictEntry} {k x : Str} {t tk : Tok} {tab : List (Str × U)} (hk : e.key = .str k t) (hv : e.val = .str x tk) (r : TabOk K es tab) : TabOk K (e :: es) ((k, .str x) :: tab) := .cons hk (v := .str x) ⟨tk, hv⟩ (fun _ _ _ _ => .str x) r
structure KTab (K : PySem.W.Frag) (wd : World) (a : Addr) (tab : List (Str × U)) : Prop where
  ex : ∃ (es : List DictEntry) (n : Nat), KDict K wd a es.toArray n ∧ TabOk K es tab
def lookT : List (Str × U) → Str → Option U
  | [], _ => none
  | (k, u) :: r, z => if k = z then some u else lookT r z
theorem tab_find {K : PySem.W.Frag} {z : Str} : ∀ {es : List DictEntry} {tab : List (Str × U)}, TabOk K es tab →
    (lookT tab z = none → findBy Value.isStrOf es.toArray z = none) ∧ ∀ u, lookT tab z = some u → ∃ val v, findBy Value.isStrOf es.toArray z = some val ∧ RelV v val ∧ ∀ w mg P wd, VR ⟨K, mg, P, wd⟩ w u v
  | _, _, .nil => ⟨fun _ => rfl, fun u h => by cases h⟩
  | _, _, .cons (e := e) (es := es) (k := k) (t := t) (u := u) (tab := tab) hk hv hr ht => by
    have hf : findBy Value.isStrOf (e :: es).toArray z = if k = z then some e.val else findBy Value.isStrOf es.toArray z := by
      unfold findBy
      rw [List.find?_toArray, List.find?_toArray, List.find?_cons]
      have hb : Value.isStrOf z e.key = decide (k = z) := by
        rw [hk]
        by_cases q : k = z
        · subst q; rw [decide_eq_true rfl]; simp [Value.isStrOf]
        · rw [decide_eq_false q]; simp [Value.isStrOf, q]
      rw [hb]
      by_cases q : k = z
      · rw [if_pos q, decide_eq_true q]; rfl
      · rw [if_neg q, decide_eq_false q]
    rw [hf]
    unfold lookT
    by_cases q : k = z
    · rw [if_pos q, if_pos q]
      exact ⟨fun h => (nomatch h), fun y h => (by cases h; exact ⟨e.val, _, rfl, hv, hr⟩)⟩
    · rw [if_neg q, if_neg q]
      exact tab_find ht
def fWget (tab : List (Str × U)) (f : FE) : FE := fun d S => (f d S).bind fun u S1 => match u with
  | .str z => .ok ((lookT tab z).getD .non) S1
  | _ => .bad
def fWix (tab : List (Str × U)) (f : FE) : FE := fun d S => (f d S).bind fun u S1 => match u with
  | .str z => match lookT tab z with
    | some y => .ok y S1
    | none => .bad
  | _ => .bad
theorem kd_at {pins : List (Addr × Obj)} {σ : L2.St} {H : Hp} {s : Shared} {a : Addr} {es : Array DictEntry} {n : Nat} (I : Inv X pins σ H s) (D : KDict X.K X.w a es n) : ∀ b, Value.ref a = .ref b → ∃ ob, s.heap.get? b = some ob ∧ ob.dict = none := fun b e => by
  cases e
  exact ⟨_, I.kIn _ _ D.at_, rfl⟩
theorem pe_wget {x : Str} {p apos cpos : Pos} {a : Addr} {tab : List (Str × U)} {e : Expr} {te : TE} (D : KTab X.K X.w a tab) (hg : Gl X x) (hm : X.mg x = some (.ref a)) (he : PE X e te) (m : M1 X (.Name x p) "get" apos e cpos) (hd : (x == ("__debug__" : Str)) = false) :
    PE X (.Call (.Attribute (.Name x p) "get" apos) [e] [] cpos) (fun σ H Q => te σ H fun y H1 => ∃ z, y = .str z ∧ (lookT tab z = none → Q .non H1) ∧ ∀ u, lookT tab z = some u → ∀ v, (∀ w, VR (KMof X) w u v) → Q v H1) := by
  obtain ⟨es, n, D, ht⟩ := D.ex
  refine ⟨fun pins s σ H Q I h => ?_⟩
  refine wpAny_Call_method m.base m.few m.line PySem.F.plainAttrs_dict PySem.F.slot_dict_get PySem.F.type_dict_get (ld_glob I hg hm ⟨kd_type D I, kd_at I D, ?_⟩ hd)
  rw [m.trees]
  refine Calls.callWith_builtin rfl (Calls.evalArgs_plain (Calls.spliced_cons (thn (he.run pins s σ H _ I h) fun iv s2 ⟨y, H2, I2, ry, z, ez, q1, q2⟩ => Calls.spliced_nil ?_)))
  subst ez
  obtain ⟨t, rfl⟩ := ry
  have hmap := PySem.W.mapOf_K (prog := X.prog) (w := X.w) I2.kIn D.at_ D.lit
  refine call_meetsIn PySem.F.slot_dict_get hmap.typeIs PySem.F.entry_dict_get (PySem.F.args_dict_get_2 _ _) (meets_dict_get (strKind X.prog X.w) a (PySem.strKind_is X.prog X.w z t) D.low) ⟨_, hmap, ?_⟩
  obtain ⟨f1, f2⟩ := tab_find (z := z) ht
  cases hl : lookT tab z with
  | none =>
    rw [f1 hl]
    exact ⟨.non, H2, I2.tok _, rfl, q1 hl⟩
  | some u =>
    obtain ⟨val, v, e1, e2, e3⟩ := f2 u hl
    rw [e1]
    exact ⟨v, H2, I2.tok _, e2, q2 u hl v (fun w => e3 w _ _ _)⟩
theorem se_wget {x : Str} {p apos cpos : Pos} {a : Addr} {tab : List (Str × U)} {e : Expr} {f : FE} (D : KTab X.K X.w a tab) (hg : Gl X x) (hm : X.mg x = some (.ref a)) (he : SimE X Wx e f)
    (m : M1 X (.Name x p) "get" apos e cpos := by exact ⟨rfl, rfl, rfl, rfl⟩) (hd : (x == ("__debug__" : Str)) = false := by decide) : SimE X Wx (.Call (.Attribute (.Name x p) "get" apos) [e] [] cpos) (fWget tab f) := by
  obtain ⟨t, pe, he⟩ := he.out
  refine SimE.mk (pe_wget D hg hm pe m hd) (fun w d σ Q s e h => ?_)
  refine he w d σ _ s e ((Pst.of_bind h).mono (fun u S1 h1 w1 v eS st s1 r => ?_) fun _ _ q => q)
  cases r with
  | str z =>
    refine ⟨z, rfl, fun hl => ?_, fun u hl v hv => ?_⟩
    · have h1 : OkE X w Q ((lookT tab z).getD .non) S1 := h1
      rw [hl] at h1
      exact h1 w1 .non eS st s1 .non
    · have h1 : OkE X w Q ((lookT tab z).getD .non) S1 := h1
      rw [hl] at h1
      exact h1 w1 v eS st s1 (hv w1)
  | _ => exact h1.elim
theorem cx_none {P : Program} {w : World} {outer : List Env} {H : Hp} {s : Shared} {e : Value} {s' : Shared} (h : L2.CX P w outer H s (fun _ _ _ => False) e s') : False := by
  obtain ⟨_, _, _, _, _, _, _, _, _, _, _, _, z⟩ := h
  exact z
def spLaw (K : PySem.W.Frag) (n : Nat) : Sp := fun vs H Q _ => ∃ (a : Addr) (ns : List Int), vs = [.ref a] ∧ Only H ∧ SqL K H a (ns.map V.int) ∧ ns.length ≤ n ∧ ∀ H', Q (.bl true) H'
theorem ints_vr {K : KM} {w : Wd} : ∀ ns : List Int, VRs K w (ns.map U.int) (ns.map V.int)
  | [] => .nil
  | n :: ns => .cons (.int n) (ints_vr ns)
end
end DL
set_option maxHeartbeats 4000000
namespace PySem
namespace OX
open PySem.W PySem.Calls PyProof.Rows PySem.HandSPX
structure NewF (O newId : String) (bm : List Value) : Prop where
  quiet : newId.startsWith "lifetime." = false
  split : splitId newId = some (O, "__new__")
  kind : builtinKind newId = some .builtinFn
  row : Manifest.signature? newId = some ⟨.any, O, O, .cls, [⟨"args", .varPos, false⟩, ⟨"kwargs", .varKw, false⟩]⟩
  has : bm.contains (.type O) = true
  noA : bm.contains (.type "AttributeError") = false
  noN : bm.contains (.type "NameError") = false
  canon : Manifest.canonical newId = Manifest.canonical "BaseException.__new__"
  ends : newId.endsWith ".__new__" = true
  owner : newId.dropRight 8 = O
  entry : entryFor table newId = some Builtin.«BaseException.__new__»
  star : (O != "*") = true
structure InitF (B initId : String) (bm : List Value) : Prop where
  plain : plainId initId = true
  entry : entryFor table initId = some Builtin.«BaseException.__init__»
  kind : builtinKind initId = some .slot
  split : splitId initId = some (B, "__init__")
  row : Manifest.signature? initId = some ⟨.positional, "*", B, .self, [⟨"args", .varPos, false⟩]⟩
  has : bm.contains (.type B) = true
  star : (B != "*") = true
theorem NewF.of {B n i : String} {bm : List Value} (F : ExcBaseFacts B n i bm) : NewF B n bm := ⟨F.quiet, F.newSplit, F.newKind, F.newRow, F.hasB, F.noAttr, F.noName, F.canon, F.ends, F.owner, F.entry, F.noStar⟩
theorem InitF.of {B n i : String} {bm : List Value} (F : ExcBaseFacts B n i bm) : InitF B i bm := ⟨F.init.plain, F.initEntry, F.initKind, F.initSplit, F.initRow, F.hasB, F.noStar⟩
section
variable {P : Program} {wd : World} {Ar : Around} {Er : Value → Shared → Prop} {Rs : Result → Shared → Prop} {hp : Heap} {gs : Array GenState} {dn : Drawn} {tk : Nat} {so : OsState}
variable {nm qn : Str} {C N : Addr} {bs bm : List Value} {hd : Bool} {sn : List Str} {sb : List Value} {ab : Bool} {col : Option Bool} {dd : Option Addr} {e0 e1 e2 e3 e5 : Option Value} {O B newId initId : String}
theorem new_checked {M : Model} (F : NewF O newId bm) {vs : List Value} {Q : Unit → Shared → Prop} (hC : hp.get? C = some (excClassObj nm qn C N bs bm hd sn sb ab col dd e0 e1 e2 e3 e5 newId)) (hq : Q () ⟨hp, gs, dn, tk, so⟩) :
    wpAny M Ar (checkBuiltinCall newId ⟨.ref C :: vs, []⟩) Q Er ⟨hp, gs, dn, tk, so⟩ := by
  have c1 : (Value.ref C :: bm).contains (.type O) = true := by rw [List.contains_cons, F.has, Bool.or_true]
  have c2 := F.star
  simp only [checkBuiltinCall, F.kind, F.split, F.row]
  repeat (first | refine wpAny_loadPart_at hC ?_ | (refine wpAny_isSubtype_exc hC ?_; rw [c1]) | refine wpAny_staticBase_exc hC ?_ | refine wpAny_madeBy_exc hC ?_ | simp only [bne_self_eq_false, Bool.false_eq_true, if_false] | wp_step)
  exact hq
theorem init_checked {M : Model} (F : InitF B initId bm) {e : Addr} {oe : Obj} {vs : List Value} {Q : Unit → Shared → Prop} (hC : hp.get? C = some (excClassObj nm qn C N bs bm hd sn sb ab col dd e0 e1 e2 e3 e5 newId)) (he : hp.get? e = some oe) (hk : oe.cls = .ref C) (hq : Q () ⟨hp, gs, dn, tk, so⟩) :
    wpAny M Ar (checkBuiltinCall initId ⟨.ref e :: vs, []⟩) Q Er ⟨hp, gs, dn, tk, so⟩ := by
  have c1 : (Value.ref C :: bm).contains (.type B) = true := by rw [List.contains_cons, F.has, Bool.or_true]
  have c2 := F.star
  simp only [checkBuiltinCall, F.kind, F.split, F.row]
  repeat (first | (with_reducible refine wpAny_loadPart_at he ?_; rw [hk]) | with_reducible refine wpAny_loadPart_at hC ?_ | (with_reducible refine wpAny_isSubtype_exc hC ?_; rw [c1]) | wp_step)
  refine wpAny_onRaise ?_
  rw [show ∀ (a b : String) (n : Nat), Bind.check ⟨.positional, "*", B, .self, [⟨"args", .varPos, false⟩]⟩ a b n (List.map (fun x => x.fst) ({ pos := Value.ref e :: vs } : Args).kw) = pure () from fun a b n => check_star_args _ _ _ _ _ _]
  exact wpAny_pure hq
theorem new_made (F : NewF O newId bm) {vs : List Value} (hC : hp.get? C = some (excClassObj nm qn C N bs bm hd sn sb ab col dd e0 e1 e2 e3 e5 newId))
    (hq : Rs (.ok (.ret (.ref (hp.objs.size + 1)))) ⟨(hp.push (kdv_tup vs)).push (excO C hp.objs.size), gs, dn, tk, so⟩) (hl : vs.length ≤ sizeLine) : codeAny (model P wd) Ar (.builtin newId ⟨.ref C :: vs, []⟩) Rs ⟨hp, gs, dn, tk, so⟩ := by
  have c0 := F.ends
  have c1 : (Value.ref C :: bm).contains (.type O) = true := by rw [List.contains_cons, F.has, Bool.or_true]
  have c2 : (Value.ref C :: bm).contains (.type "AttributeError") = false := by rw [List.contains_cons, F.noA]; rfl
  have c3 : (Value.ref C :: bm).contains (.type "NameError") = false := by rw [List.contains_cons, F.noN]; rfl
  refine codeAny_builtinAt F.entry ?_
  unfold Builtin.«BaseException.__new__»
  refine wpAt_bind (show wpAt _ _ _ (stack >>= _) _ _ _ from ?_)
  refine wpAt_bind (wpAt_stack fun p q => wpAt_of_wpAny ?_)
  wp_walk
  refine wpAt_of_wpAny ?_
  rw [F.owner]
  repeat (first | with_reducible refine wpAny_madeHere_exc F.canon hC ?_ | with_reducible refine wpAny_loadPart_at hC ?_ | (with_reducible refine wpAny_isSubtype_exc hC ?_; first | rw [c1] | rw [c2] | rw [c3]) | wp_step)
  show Rs _ _
  rw [Heap.size_push]
  exact hq
theorem type_called (F : NewF O newId bm) {vs : List Value} {fI : Addr} {Q : Fin → Shared → Prop} (hC : hp.get? C = some (excClassObj nm qn C N bs bm hd sn sb ab col dd e0 e1 e2 e3 e5 newId))
    (hi : Looks (model P wd) hp (typeLookup (.ref C) "__init__") (some (.ref fI))) (hb : ∀ self, Looks (model P wd) hp (bindSpecial (.ref fI) self) (.ref fI, [self])) (hl : vs.length ≤ sizeLine)
    (hq : codeAny (model P wd) Ar (.call (.ref fI) ⟨.ref (hp.objs.size + 1) :: vs, []⟩) (fun r s' => match r with
      | .ok (.ret v) => v = .none ∧ Q (.done (.ret (.ref (hp.objs.size + 1)))) s'
      | .ok _ => False
      | .error e => Er e s') ⟨(hp.push (kdv_tup vs)).push (excO C hp.objs.size), gs, dn, tk, so⟩) :
    wpAny (model P wd) Ar (Builtin.«type.__call__» ⟨.ref C :: vs, []⟩) Q Er ⟨hp, gs, dn, tk, so⟩ := by
  repeat (first | with_reducible refine wpAny_loadPart_at hC ?_ | with_reducible refine wpAny_madeBy_exc hC ?_ | wp_step)
  refine codeAny_call_builtin_code (Code.quiet_builtin _ F.quiet) (new_checked F hC (new_made F hC (show wpAny _ _ _ _ _ _ from ?_) hl))
  have k : ∀ b o, hp.get? b = some o → ((hp.push (kdv_tup vs)).push (excO C hp.objs.size)).get? b = some o := fun b o q => Heap.get?_push_of_some _ (Heap.get?_push_of_some _ q)
  have hC' := k _ _ hC
  have hg : ((hp.push (kdv_tup vs)).push (excO C hp.objs.size)).get? (hp.objs.size + 1) = some (excO C hp.objs.size) := by heap_get
  have cC : (Value.ref C :: bm).contains (.ref C) = true := by simp
  have l1 := hi.keeps k
  have l2 := (hb (.ref (hp.objs.size + 1))).keeps k
  unfold isInstance
  repeat (first | with_reducible refine wpAny_loadPart_at hg ?_ | (with_reducible refine wpAny_isSubtype_exc hC' ?_; rw [cC]) | wp_step)
  refine (show wpAny _ _ (typeLookup (.ref C) _) _ _ _ from l1.at (wpAny_holding (wpAny_bind (l2.at (wpAny_bind (wpAny_call (codeAny_mono hq fun r s' z => ?_)))))))
  rcases r with e | (v | _ | _ | _) <;> first | exact z | exact z.elim | skip
  obtain ⟨rfl, z⟩ := z
  first
    | exact wpAny_pure (wpAny_pure z)
    | (wp_walk; exact z)
theorem class_called (F : NewF O newId bm) {vs : List Value} {fI : Addr} (hC : hp.get? C = some (excClassObj nm qn C N bs bm hd sn sb ab col dd e0 e1 e2 e3 e5 newId))
    (hi : Looks (model P wd) hp (typeLookup (.ref C) "__init__") (some (.ref fI))) (hb : ∀ self, Looks (model P wd) hp (bindSpecial (.ref fI) self) (.ref fI, [self])) (hl : vs.length ≤ sizeLine)
    (hq : codeAny (model P wd) (Ar.under (.builtin "type.__call__" ⟨.ref C :: vs, []⟩)) (.call (.ref fI) ⟨.ref (hp.objs.size + 1) :: vs, []⟩) (InitBack (hp.objs.size + 1) Rs) ⟨(hp.push (kdv_tup vs)).push (excO C hp.objs.size), gs, dn, tk, so⟩) :
    codeAny (model P wd) Ar (.call (.ref C) ⟨vs, []⟩) Rs ⟨hp, gs, dn, tk, so⟩ := by
  have g1 := tc_lookup
  have g2 := tc_bind (.ref C)
  have g3 : (⟨hp, gs, dn, tk, so⟩ : Shared).TypeIs (.ref C) "type" := ⟨_, hC, rfl⟩
  refine codeAny_of_tree (show wpAny _ _ (callAny (.ref C) _) _ _ _ from ?_)
  repeat (any_goals (first | assumption | with_reducible refine wpAny_loadPart_at hC ?_ | wp_step))
  refine ⟨rfl, codeAny_call_builtin_at (Code.quiet_builtin _ (by decide +kernel)) entry_typeCall (wpAny_check_type_call_sub hC (type_called F hC hi hb hl (codeAny_mono hq fun r s' z => ?_)))⟩
  rcases r with e | (v | _ | _ | _) <;> exact z
theorem base_init (F : InitF B initId bm) {e t0 : Addr} {vs : List Value} (hC : hp.get? C = some (excClassObj nm qn C N bs bm hd sn sb ab col dd e0 e1 e2 e3 e5 newId)) (he : hp.get? e = some (excO C t0)) (hl : vs.length ≤ sizeLine)
    (hq : ∀ h' t1, (∀ b o, b ≠ e → hp.get? b = some o → h'.get? b = some o) → h'.get? e = some (excO C t1) → Rs (.ok (.ret .none)) ⟨h', gs, dn, tk, so⟩) : codeAny (model P wd) Ar (.call (.builtin initId) ⟨.ref e :: vs, []⟩) Rs ⟨hp, gs, dn, tk, so⟩ := by
  refine codeAny_call_builtin F.plain F.entry (init_checked F hC he rfl ?_)
  wp_walk
  refine hq _ hp.objs.size (fun b o nb q => ?_) ?_
  · rw [Heap.get?_update_other _ _ (Ne.symm nb)]; exact Heap.get?_push_of_some _ q
  · rw [Heap.get?_update_self _ (Heap.get?_push_of_some _ he) rfl]; rfl
end
end OX
end PySem
set_option maxHeartbeats 4000000
namespace PySem
namespace OX
open PySem.W PySem.Calls PyProof.Rows PySem.HandSPX
open Builtin Builtin.ObjectAttr
theorem first_field {P : Program} {wd : World} {Ar : Around} {Rs : Result → Shared → Prop} {hp : Heap} {gs : Array GenState} {dn : Drawn} {t : Nat} {so : OsState} {K : Frag} {f : Str} {tk : Tok} {v : Value} {x C : Addr} {fv : Array Value} {B : String} {bm : List Value}
    (SF : StoreFacts B bm "object.__setattr__" "object") (X : K.In hp) (hx : hp.get? x = some { cls := .ref C, data := .fields fv }) (ho : excOver K C bm = true) (hd : hasDictIn K C = true) (ha : findIn K (.ref C) f = some none)
    (hq : ∀ h' tk' dx, (∀ b o, b ≠ x → hp.get? b = some o → h'.get? b = some o) → hp.objs.size ≤ dx → dx ≠ x → h'.get? x = some { cls := .ref C, dict := some dx, data := .fields fv } →
      h'.Ns1 dx (fun y => if y = f then some v else none) → Rs (.ok (.ret .none)) ⟨h', gs, dn, tk', so⟩) :
    codeAny (model P wd) Ar (.call (.builtin "object.__setattr__") ⟨[.ref x, .str f tk, v], []⟩) Rs ⟨hp, gs, dn, t, so⟩ := by
  have xs : x ≠ hp.objs.size := Nat.ne_of_lt (Heap.lt_size hx)
  obtain ⟨cd, hc, hd'⟩ := any_some hd
  have lc : Looks (model P wd) hp (classData C) cd := looks_clsIn X hc
  refine osa_openX (od := none) (r := none) SF X ⟨hx, rfl, rfl, trivial⟩ ho (by unfold takerIn; rw [ha]; rfl) fun b => ?_
  obtain ⟨nm, bs, mro, ns, qn, hd2, sn, sb, ab, col, del⟩ := cd
  dsimp only at hd'
  subst hd'
  show wpAny _ _ (storeInOwnDict (.ref x) (.ref C) (.str f tk) f v b) _ _ _
  unfold storeInOwnDict ownDictForStores
  repeat (first | with_reducible refine store_in_new ?_ ?_ | with_reducible refine wpAny_loadPart_at hx ?_ | with_reducible refine lc.at ?_ | wp_step)
  · exact ⟨_, #[], _, (Heap.get?_update_ne _ _ _ _ xs.symm).trans (Heap.get?_push_at rfl rfl), rfl, fun e he => absurd he (by simp), fun _ => rfl⟩
  · intro h' tk' hn hs
    have hx1 : (hp.push { cls := .type "dict", data := .dict #[] }).get? x = some { cls := .ref C, data := .fields fv } := Heap.get?_push_of_some _ hx
    refine hq h' tk' hp.objs.size (fun b o nb q => ?_) (Nat.le_refl _) xs.symm ((hs.2 x xs).trans (Heap.get?_update_self _ hx1 rfl)) hn
    exact (hs.2 b (Nat.ne_of_lt (Heap.lt_size q))).trans ((Heap.get?_update_ne _ _ _ _ nb).trans (Heap.get?_push_of_some _ q))
end OX
end PySem
set_option maxHeartbeats 4000000
namespace DL
open PySem PySem.Spec L2 PyProof.Rows
structure BaseX (B O newId initId : String) (bm : List Value) : Prop where
  n : OX.NewF O newId bm
  i : OX.InitF B initId bm
  s : StoreFacts B bm "object.__setattr__" "object"
  ty : typeOf (.type B) = pure (.type "type")
  boot : bootBuiltins B = some (.type B)
  nn : (Str.ofString B) ≠ "__name__"
  nd : ((Str.ofString B) == ("__debug__" : Str)) = false
  stub : Manifest.isStub B = false
  hand : PySem.W.handedIn (.builtin initId) = true
theorem bx_ValueError : BaseX "ValueError" "ValueError" "ValueError.__new__" "ValueError.__init__" [.type "ValueError", .type "Exception", .type "BaseException", .type "object"] := ⟨.of F.excBase_ValueError, .of F.excBase_ValueError, F.store_ValueError, by kernel_rfl, by decide +kernel, by decide, by decide, by decide +kernel, by decide +kernel⟩
structure OxC (K : PySem.W.Frag) (C : Addr) (newId : String) (bm : List Value) : Prop where
  cls : ∃ nm q N bs sn sub ab col dd k0 k1 k2 k3 k5, K.lookup C = some (excClassObj nm q C N bs bm true sn sub ab col dd k0 k1 k2 k3 k5 newId)
  sa : PySem.W.findIn K (.ref C) "__setattr__" = some (some (.builtin "object.__setattr__"))
  exC : PySem.W.subIn K (.ref C) (.type "BaseException") = some true
  tyC : PySem.W.typeIn K (.ref C) = some (.type "type")
  kC : PySem.W.keepIn K (.ref C) = true
  ov : PySem.W.excOver K C bm = true
  hd : PySem.W.hasDictIn K C = true
section
variable {X : Cx} {pins : List (Addr × Obj)} {σ : L2.St} {H : Hp} {s : Shared} {a C : Addr} {f : Str} {y : V} {u : Value} {A : Around} {B O newId initId : String} {bm : List Value}
theorem ox_store {Q : Unit → Shared → Prop} {E : Value → Shared → Prop} (b : BaseX B O newId initId bm) (T : OxC X.K C newId bm) (I : Inv X pins σ H s) (e : H a = some (exo a C none)) (hno : PySem.W.findIn X.K (.ref C) f = some none) (ry : RelV y u)
    (h : ∀ dx s', H dx = none → dx ≠ a → Inv X pins σ (upd (upd H dx (exd dx [(f, y)])) a (exo a C (some dx))) s' → Q () s') : wpAny (model X.prog X.w) A (setAttr (.ref a) f u) Q E s := by
  obtain ⟨t1, ho⟩ := exo_at I.hok e
  obtain ⟨hp, gs, dn, tk, so⟩ := s
  refine PySem.W.set_plain I.kIn (ox := { cls := .ref C, dict := none, data := .fields #[.ref t1, .none, .none, .none, .bool false, .none] }) (od := none) ⟨ho, rfl, rfl, trivial⟩ T.sa (OX.first_field b.s I.kIn ho T.ov T.hd hno fun h' tk' dx k dn' dne hx hn => ?_)
  have fresh : H dx = none := I.hok.fresh dn'
  have old : ∀ {c : Addr} {o : Obj}, hp.get? c = some o → c ≠ dx := fun {c o} q => Nat.ne_of_lt (Nat.lt_of_lt_of_le (Heap.lt_size q) dn')
  have nota : ∀ {c : Addr}, H c = none → c ≠ a := fun {c} n z => by rw [z, e] at n; cases n
  have U : Un X.fs [] H (upd (upd H dx (exd dx [(f, y)])) a (exo a C (some dx))) hp h' := {
    keep := fun c o q n _ _ => k c o (nota n) q
    slot := fun c o q n _ _ => ⟨o.slots, k c o (nota n) q⟩
    free := fun c o q n _ => by rw [upd_ne (nota n), upd_ne (old q)]; exact n
    there := fun c o q _ => by
      by_cases hc : c = a
      · subst hc; exact ⟨_, hx⟩
      · exact ⟨o, k c o hc q⟩
    tups := fun c xs q => by rw [upd_ne (at_ne e q exo_tup), upd_ne (ne_of_none q fresh)]; exact q
    frzs := fun c o v q => by rw [upd_ne (at_ne e q exo_frz), upd_ne (ne_of_none q fresh)]; exact q
    tbls := fun c ps q => ⟨#[], by rw [upd_ne (at_ne e q exo_tbl), upd_ne (ne_of_none q fresh), q]; simp⟩ }
  refine h dx _ fresh dne (I.un (t' := tk') U fun c o q => ?_)
  by_cases hc : c = a
  · subst hc
    rw [upd_same] at q
    cases q
    exact exo_ok hx
  rw [upd_ne hc] at q
  by_cases hd : c = dx
  · subst hd
    rw [upd_same] at q
    cases q
    exact exd_ok hn (relO_put (fs := []) ry fun g => True.intro)
  rw [upd_ne hd] at q
  refine (I.hok c o q).stay (fun c' v hc' z => k c' v ?_ z) (fun c' hc' => ?_) (fun c' xs hc' => ?_)
  · rcases hc' with hc' | hc'
    · rw [hc']; exact hc
    · exact at_ne e hc' exo_own
  · rw [upd_ne (at_ne e hc' exo_own), upd_ne (ne_of_none hc' fresh)]; exact hc'
  · rw [upd_ne (at_ne e hc' exo_tup), upd_ne (ne_of_none hc' fresh)]; exact hc'
theorem ox_init {us : List Value} {Q : Value → Shared → Prop} {E : Value → Shared → Prop} (b : BaseX B O newId initId bm) (T : OxC X.K C newId bm) (I : Inv X pins σ H s) (e : H a = some (exo a C none)) (hl : us.length ≤ sizeLine) (h : ∀ s', Inv X pins σ H s' → Q .none s') :
    wpAny (model X.prog X.w) A (call (.builtin initId) (.ref a :: us)) Q E s := by
  obtain ⟨nm, q, N, bs, sn, sub, ab, col, dd, k0, k1, k2, k3, k5, hC⟩ := T.cls
  obtain ⟨t1, ho⟩ := exo_at I.hok e
  obtain ⟨hp, gs, dn, tk, so⟩ := s
  refine wpAny_call (OX.base_init b.i (I.kIn _ _ hC) ho hl fun h' t2 k hx => ?_)
  have J := I.write (t' := tk) (x := a) (e := a) (o := exo a C none) (by rw [e]; exact True.intro) (.inl rfl) k ⟨_, hx⟩ (exo_ok hx)
  rw [show upd H a (exo a C none) = H from by
    funext c
    by_cases hc : c = a
    · rw [hc, upd_same, e]
    · rw [upd_ne hc]] at J
  exact h _ J
end
def tBI (C : Addr) (ta : TA) : TE := fun σ H Q => ta σ H fun vs H1 => ∃ (a : Addr) (ws : List V), vs = .ref a :: ws ∧ ws.length ≤ 1000 ∧ H1 a = some (exo a C none) ∧ Q .non H1
def tOS (C : Addr) (f : Str) (to te : TE) : TS := fun D σ H => te σ H fun y H1 => to σ H1 fun x H2 => ∃ a : Addr, x = .ref a ∧ H2 a = some (exo a C none) ∧ ∀ dx, H2 dx = none → dx ≠ a → D.nx σ (upd (upd H2 dx (exd dx [(f, y)])) a (exo a C (some dx)))
section
variable {X : Cx} {o e : Expr} {es : List Expr} {to te : TE} {ta : TA} {f : Str} {p p' p1 p2 pos : Pos} {C : Addr} {B O newId initId : String} {bm : List Value}
theorem pe_binit {pl : Sem Bool} (b : BaseX B O newId initId bm) (T : OxC X.K C newId bm) (hg : Gl X B) (hm : X.mg B = none) (vV : PySem.W.findCls X.K (.type B) (.type "type") "__init__" = some (.val (.builtin initId))) (ha : PA X (e :: es) ta)
    (hc : eval (.Call (.Attribute (.Name B p1) "__init__" p2) (e :: es) [] pos) X.env = (do
      let ov ← eval (.Name B p1) X.env
      standAt p2.atName
      let (f, first) ← holding [ov] (getMethod ov "__init__" pl)
      callWith pos f first (backTo pos (starEach (e :: es) X.env)) (backToKw pos (keywordEach [] X.env))) := by rfl)
    (he : starEach (e :: es) X.env = (false, eval e X.env) :: starEach es X.env := by rfl) (hpl : (backTo pos (starEach es X.env)).any (·.1) = false := by rfl) :
    PE X (.Call (.Attribute (.Name B p1) "__init__" p2) (e :: es) [] pos) (tBI C ta) := by
  refine ⟨fun pins s σ H Q I h => ?_⟩
  refine PySem.W.methodCall_KW (ld_blt I hg hm b.boot ?_ b.nn b.nd) hc
  obtain ⟨m, fr⟩ := I.fr
  refine PySem.W.method_type fr I.ok.mod.kin b.ty b.stub vV b.hand ?_
  show wpAny _ _ (callWith pos (Value.builtin initId) [] (backTo pos (starEach (e :: es) X.env)) []) _ _ _
  refine PyProof.Rows.callWith_method1 (thn (ha.run pos pins _ σ H _ (I.tok _) h) fun us s1 ⟨vs, H1, I1, r1, a, ws, ev, hl, ea, q⟩ => ?_) he hpl
  subst ev
  cases r1 with
  | @cons _ u0 _ ur ra rr =>
    obtain rfl : u0 = Value.ref a := ra
    exact ox_init b T I1 ea (by rw [← Paired.length rr, sizeLine_eq]; omega) fun s' J => ⟨.non, H1, J, rfl, q⟩
theorem ps_oset (b : BaseX B O newId initId bm) (T : OxC X.K C newId bm) (hno : PySem.W.findIn X.K (.ref C) f = some none) (ho : PE X o to) (he : PE X e te) (hs : swapsWith e (some (.Attribute o f p')) pos.line X.env = pure false := by rfl) : PS X (.Assign [.Attribute o f p'] e pos) (tOS C f to te) := by
  refine ⟨fun pins s σ H D I h => ?_⟩
  refine plainObj_wpAny_Assign_Attribute (thn (he.run pins s σ H _ I h) fun v s1 ⟨y, H1, I1, r1, q1⟩ => thn (ho.run pins s1 σ H1 _ I1 q1) fun u s2 ⟨x, H2, I2, r2, a, ex, ea, q⟩ => ?_) hs
  subst ex
  obtain rfl : u = Value.ref a := r2
  exact ox_store b T I2 ea hno r1 fun dx s' n ne J => ⟨σ, _, J, q dx n ne⟩
def spI (C : Addr) (f : Str) : Sp := fun vs H Q _ => ∃ (a : Addr) (y : V), vs = [.ref a, y] ∧ H a = some (exo a C none) ∧ ∀ dx, H dx = none → dx ≠ a → Q .non (upd (upd H dx (exd dx [(f, y)])) a (exo a C (some dx)))
end
theorem exv_at {P : Program} {w : World} {H : Hp} {h : Heap} {a C d : Addr} (hok : HOk P w H h) (he : H a = some (exv a C d)) : ∃ (oe : Obj) (vs : Array Value), h.get? a = some oe ∧ Zc (.ref C) (some d) oe ∧ oe.data = .fields vs := by
  have x : ObjOk P w H h a (.ext fun h => ∃ (oe : Obj) (vs : Array Value), h.get? a = some oe ∧ Zc (.ref C) (some d) oe ∧ oe.data = .fields vs) := hok a _ he
  exact x.1
section
variable {X : Cx} {x xi f : Str} {C fI : Addr} {k : Nat} {fd : FuncData} {e : Expr} {ta : TA} {p pos : Pos} {B O newId initId : String} {bm : List Value}
def Made (X : Cx) (pins : List (Addr × Obj)) (σ : L2.St) (C : Addr) (f : Str) (y : V) (H1 : Hp) (a : Addr) (hp : Heap) (s' : Shared) : Prop :=
  ∃ (d : Addr) (hp2 : Heap), (∃ s2 : Shared, s2.heap = hp2 ∧ s'.os = s2.os ∧ Inv X pins σ (upd H1 a (exo a C none)) s2) ∧ hp.objs.size ≤ a ∧ d ≠ a ∧ H1 d = none ∧ (∀ b o, hp.get? b = some o → hp2.get? b = some o) ∧ Un (frs X.stack) [] (upd H1 a (exo a C none)) (upd (upd (upd H1 a (exo a C none)) d (exd d [(f, y)])) a (exo a C (some d))) hp2 s'.heap ∧
    HOk X.prog X.w (upd (upd (upd H1 a (exo a C none)) d (exd d [(f, y)])) a (exo a C (some d))) s'.heap ∧ AllBare s'.gens
theorem ox_made (b : BaseX B O newId initId bm) (T : OxC X.K C newId bm) (iC : PySem.W.findIn X.K (.ref C) "__init__" = some (some (.ref fI))) (tI : PySem.W.typeIn X.K (.ref fI) = some (.type "function"))
    (F1 : FnOk X.prog X.w X.K X.mg X.base (L2.CX X.prog X.w) k fI fd ["self", xi] (spI C f)) (hr : Room (k + 1) X.A) (hb : Binds X.K fd ["self", xi] []) (hg : Gl X x) (hm : X.mg x = some (.ref C)) (he : PA X [e] ta)
    {pins : List (Addr × Obj)} {s : Shared} {σ : L2.St} {H : Hp} {Q : V → Hp → Prop} {R : Value → Shared → Prop} (I : Inv X pins σ H s) (h : ta σ H fun vs H1 => ∃ y, vs = [y] ∧ Q y H1)
    (fin : ∀ (y : V) (H1 : Hp) (s1 : Shared) (a : Addr) (s' : Shared), Inv X pins σ H1 s1 → Q y H1 → s'.os = s1.os → Made X pins σ C f y H1 a s1.heap s' → R (.ref a) s')
    (hdb : (x == ("__debug__" : Str)) = false := by decide) (hst : starEach [e] X.env = (false, eval e X.env) :: starEach [] X.env := by rfl) (hpl : (backTo pos (starEach [] X.env)).any (·.1) = false := by rfl) :
    wpAny (model X.prog X.w) X.A (eval (.Call (.Name x p) [e] [] pos) X.env) R X.xe s := by
  obtain ⟨nm, q, N, bs, sn, sub, ab, col, dd, k0, k1, k2, k3, k5, hC⟩ := T.cls
  refine wpAny_Call_Name_kw (ld_glob I hg hm ?_ hdb)
  refine PySem.W.callWith_K (h₀ := X.base) I.ok.mod.kin T.kC (thn (he.run pos pins s σ H (fun vs H1 => ∃ y, vs = [y] ∧ Q y H1) I h) fun us s1 ⟨vs, H1, I1, r1, y, ey, q1⟩ => ⟨I1.kIn, ?_⟩) hst hpl
  subst ey
  show wpAny _ _ (call (.ref C) us) _ _ _
  obtain ⟨hp, gs, dn, tk, so⟩ := s1
  have hn : H1 (hp.objs.size + 1) = none := I1.hok.fresh (Nat.le_succ _)
  have kk : ∀ c o, hp.get? c = some o → ((hp.push (PySem.W.kdv_tup us)).push (PySem.HandSPX.excO C hp.objs.size)).get? c = some o := fun c o z => Heap.get?_push_of_some _ (Heap.get?_push_of_some _ z)
  have I2 : Inv X pins σ (upd H1 (hp.objs.size + 1) (exo (hp.objs.size + 1) C none)) ⟨(hp.push (PySem.W.kdv_tup us)).push (PySem.HandSPX.excO C hp.objs.size), gs, dn, tk, so⟩ := I1.laid (t' := tk) (a := hp.objs.size + 1) (o := exo (hp.objs.size + 1) C none) (h' := (hp.push (PySem.W.kdv_tup us)).push (PySem.HandSPX.excO C hp.objs.size)) kk (Nat.le_succ _) (exo_ok (by heap_get))
  have r2 : Vals [V.ref (hp.objs.size + 1), y] (Value.ref (hp.objs.size + 1) :: us) := .cons rfl r1
  have hlen : us.length = 1 := (Paired.length r1).symm
  refine wpAny_call (OX.class_called b.n (I1.kIn _ _ hC) (PySem.W.looks_findIn I1.kIn iC) (fun self => PySem.W.bind_fn I1.kIn self tI) (by rw [hlen]; decide)
    (codeAny_mono (F1.run _ X.stack _ _ ⟨Value.ref (hp.objs.size + 1) :: us, []⟩ (Value.ref (hp.objs.size + 1) :: us) _ (fun v H2 => v = .non ∧ ∃ d, d ≠ hp.objs.size + 1 ∧ H1 d = none ∧ H2 = upd (upd (upd H1 (hp.objs.size + 1) (exo (hp.objs.size + 1) C none)) d (exd d [(f, y)])) (hp.objs.size + 1) (exo (hp.objs.size + 1) C (some d))) (fun _ _ _ => False) (hr.make C us []) (I2.env0.make C us []) ?_ r2 ?_) fun r s' hq' => ?_))
  · have z := hb _ (Value.ref (hp.objs.size + 1) :: us) I2.kIn (by simp [hlen])
    simpa using z
  · refine ⟨hp.objs.size + 1, y, rfl, upd_same, fun dx n ne => ⟨rfl, dx, ne, ?_, rfl⟩⟩
    rw [upd_ne ne] at n
    exact n
  · cases r with
    | error er => exact (cx_none hq').elim
    | ok fl =>
      cases fl with
      | ret u =>
        obtain ⟨v, H2, os2, bare2, un2, hok2, rv, ev, d, hda, hd1, e2⟩ := hq'
        subst ev
        subst e2
        exact ⟨rv, fin y H1 _ _ s' I1 q1 os2 ⟨d, _, ⟨_, rfl, os2, I2⟩, Nat.le_succ _, hda, hd1, kk, un2, hok2, bare2⟩⟩
      | next => exact False.elim hq'
      | brk => exact False.elim hq'
      | cont => exact False.elim hq'
def tMkX (C : Addr) (f : Str) (ta : TA) : L2.St → Hp → XK → Prop := fun σ H Q => ta σ H fun vs H1 => ∃ y, vs = [y] ∧ ∀ d, H1 d = none → Q (.ref C) (some d) (upd H1 d (.xd [(f, y)]))
theorem pmk_ox (b : BaseX B O newId initId bm) (T : OxC X.K C newId bm) (iC : PySem.W.findIn X.K (.ref C) "__init__" = some (some (.ref fI))) (tI : PySem.W.typeIn X.K (.ref fI) = some (.type "function"))
    (F1 : FnOk X.prog X.w X.K X.mg X.base (L2.CX X.prog X.w) k fI fd ["self", xi] (spI C f)) (hr : Room (k + 1) X.A) (hb : Binds X.K fd ["self", xi] []) (hg : Gl X x) (hm : X.mg x = some (.ref C)) (he : PA X [e] ta)
    (hdb : (x == ("__debug__" : Str)) = false := by decide) (hst : starEach [e] X.env = (false, eval e X.env) :: starEach [] X.env := by rfl) (hpl : (backTo pos (starEach [] X.env)).any (·.1) = false := by rfl) :
    PMk X (.Call (.Name x p) [e] [] pos) (tMkX C f ta) := by
  intro pins s σ H Q I h
  refine ox_made b T iC tI F1 hr hb hg hm he I h (fun y H1 s1 a s' I1 q ho hM => ?_) hdb hst hpl
  obtain ⟨d, hp2, ⟨s2, e2, os2, I2⟩, ha, hda, hd1, kk, un, hok, bare⟩ := hM
  obtain ⟨hp, gs, dn, tk, so⟩ := s1
  obtain ⟨h2, g2, d2, t2, o2⟩ := s'
  have hn : H1 a = none := I1.hok.fresh ha
  refine mk_end (raises_own T.exC T.tyC) I1 ha kk un hok ho bare upd_same (by rw [upd_ne hda, upd_same]) hd1 ?_
  rw [show upd (del (upd (upd (upd H1 a (exo a C none)) d (exd d [(f, y)])) a (exo a C (some d))) a) d (.xd [(f, y)]) = upd H1 d (.xd [(f, y)]) from ?_]
  · exact q d hd1
  · funext c
    by_cases hc : c = d
    · rw [hc, upd_same, upd_same]
    · rw [upd_ne hc, upd_ne hc]
      by_cases hca : c = a
      · rw [hca, del_same, hn]
      · rw [del_ne hca, upd_ne hca, upd_ne hc, upd_ne hca]
end
end DL
set_option maxHeartbeats 4000000
namespace DL
open PySem PySem.Spec L2 PyProof.Rows
section
variable {X : Cx} {Wx : WX} {e : Expr} {pos p : Pos}
theorem exv_inst {pins : List (Addr × Obj)} {σ : L2.St} {H : Hp} {s : Shared} {a C d : Addr} {fs : List (Str × V)} (I : Inv X pins σ H s) (ea : H a = some (exv a C d)) (ed : H d = some (.xd fs)) :
    ∃ (oe od : Obj), PySem.W.InstAt s.heap a oe C (some od) ∧ ∀ (f : Str) (v : V), fs.lookup f = some v → ∃ u, RelV v u ∧ PySem.W.lookIn f od = some (some u) := by
  obtain ⟨oe, vs, ho, hz, hd⟩ := exv_at I.hok ea
  have hx : ObjOk X.prog X.w H s.heap d (.xd fs) := I.hok d _ ed
  obtain ⟨mA, hns, hr⟩ := hx
  obtain ⟨od, hod, hl⟩ := lookIn_ns hns
  refine ⟨oe, od, ⟨ho, hz.1, by unfold PySem.W.notCls; rw [hd] <;> rfl, by rw [hz.2]; exact hod⟩, fun f v l => ?_⟩
  obtain ⟨u, hu, ru⟩ := RelO.some_of (v := v) (o := mA f) (by rw [← l]; exact hr f)
  exact ⟨u, ru, by rw [hl, hu]⟩
def tFld (K : PySem.W.Frag) (f : Str) (te : TE) : TE := fun σ H Q => te σ H fun x H1 => ∃ (a C d : Addr) (fs : List (Str × V)) (v : V), x = .ref a ∧ H1 a = some (exv a C d) ∧ H1 d = some (.xd fs) ∧ fs.lookup f = some v ∧ XfC K C ∧ PySem.W.findIn K (.ref C) f = some none ∧ Q v H1
theorem pe_fld {te : TE} {f : Str} (he : PE X e te) (hb : attributeBase e f X.env (eval e X.env) = eval e X.env := by rfl) : PE X (.Attribute e f pos) (tFld X.K f te) := by
  refine ⟨fun pins s σ H Q I h => ?_⟩
  refine attr_of hb (thn (he.run pins s σ H _ I h) fun u s1 ⟨x, H1, I1, rx, a, C, d, fs, v, ex, ea, ed, l, T, hno, q⟩ => ?_)
  subst ex
  obtain rfl : u = Value.ref a := rx
  obtain ⟨oe, od, J, look⟩ := exv_inst I1 ea ed
  obtain ⟨u, ru, hu⟩ := look f v l
  exact HandSPX.exc_get I1.kIn J T.ga T.gg T.exC (PySem.W.findObj_own T.hdC hno rfl hu) (handed_of ru) ⟨v, H1, I1.tok _, ru, q⟩
abbrev IsTab := List ((Str × (Str ⊕ String)) × Bool)
def lookI : IsTab → Str → Str ⊕ String → Option Bool
  | [], _, _ => none
  | ((c, k), b) :: r, x, y => if c = x ∧ k = y then some b else lookI r x y
structure IsOk (K : PySem.W.Frag) (mg : Str → Option Value) (tab : IsTab) : Prop where
  own : ∀ c c2 b, lookI tab c (.inl c2) = some b → ∀ C C2, mg c = some (.ref C) → mg c2 = some (.ref C2) → ExcC K C ∧ PySem.W.kitOne K (.ref C) (.ref C2) = some b
  blt : ∀ c n b, lookI tab c (.inr n) = some b → ∀ C, mg c = some (.ref C) → ExcC K C ∧ PySem.W.kitOne K (.ref C) (.type n) = some b
variable {x xi f : Str} {C fI : Addr} {k : Nat} {fd : FuncData} {B O newId initId : String} {bm : List Value}
def fMkx (c f : Str) (fa : FA) : FE := fun d S => (fa d S).bind fun us S1 => match us with
  | [u] => .ok (.exc c f u) S1
  | _ => .bad
def fRaise (c f : Str) (fa : FA) : FS := fun d S => toS d (fa d S) fun us S1 => match us with
  | [u] => .ok (.ex ⟨c, f, u⟩ d) S1
  | _ => .bad
structure ExcOk (P : Program) (w : World) (K : PySem.W.Frag) (mg : Str → Option Value) (base : Heap) (k : Nat) (x f : Str) : Prop where
  ex : ∃ (C fI : Addr) (xi : Str) (fd : FuncData) (B O newId initId : String) (bm : List Value), BaseX B O newId initId bm ∧ OxC K C newId bm ∧ PySem.W.findIn K (.ref C) "__init__" = some (some (.ref fI)) ∧ PySem.W.typeIn K (.ref fI) = some (.type "function") ∧
    FnOk P w K mg base (L2.CX P w) k fI fd ["self", xi] (spI C f) ∧ Binds K fd ["self", xi] [] ∧ mg x = some (.ref C)
theorem ss_raise {fa : FA} {rp : Pos} (T : ExcOk X.prog X.w X.K X.mg X.base k x f) (hr : Room (k + 1) X.A) (hcalm : X.calm = true) (tk : Takes X Wx) (hg : Gl X x) (ha : SimA X Wx [e] fa)
    (hdb : (x == ("__debug__" : Str)) = false := by decide) (hst : starEach [e] X.env = (false, eval e X.env) :: starEach [] X.env := by rfl) (hpl : (backTo pos (starEach [] X.env)).any (·.1) = false := by rfl) : SimS X Wx (.Raise (some (.Call (.Name x p) [e] [] pos)) none rp) (fRaise x f fa) := by
  obtain ⟨C, fI, xi, fd, B, O, newId, initId, bm, b, T1, iC, tI, F1, hb, hm⟩ := T.ex
  obtain ⟨ta, pa, ha⟩ := ha.out
  refine SimS.mk (ps_raise hcalm tk (pmk_ox b T1 iC tI F1 hr hb hg hm pa hdb hst hpl)) (fun w d σ D s e h => ?_)
  refine ha w d σ _ s e ((toS_post s e h).mono (fun us S1 h1 w1 vs eS st s1 rs => ?_) fun _ _ q => q)
  subst eS
  cases rs with
  | nil => exact h1.elim
  | cons r rs =>
    cases rs with
    | cons _ _ => exact h1.elim
    | nil =>
      rename_i u v
      refine ⟨v, rfl, fun dd nd => ?_⟩
      have st1 := Stp.new s1 (o := .xd [(f, v)]) nd
      have s2 : SR (KMof X) (w1.new dd (.xd [(f, v)])) := s1.new nd
      exact h1 (w1.new dd (.xd [(f, v)])) rfl (st.trans st1) s2 σ ((e.ext st.x s).ext st1.x s1) (.ref C) (some dd) ⟨hm, dd, v, rfl, upd_same, r.ext st1.x s1⟩
end
end DL
set_option maxHeartbeats 4000000
namespace DL
open PySem PySem.Spec L2 PyProof.Rows
section
variable {X : Cx} {pins : List (Addr × Obj)} {σ : L2.St} {H : Hp} {s : Shared}
end
section
variable {X : Cx} {x n : Str} {c : Value} {i : Nat} {body suite : List Stmt} {s0 : Stmt} {np pos pos' : Pos} {tb : WX → TS} {ts : Addr → TS} {Wout : WX}
end
section
variable {X : Cx} {Wx : WX} {x n : Str} {c : Value} {i : Nat} {body suite : List Stmt} {s0 : Stmt} {np pos pos' : Pos} {fb fs : FS} {m : Str → Option Bool}
end
end DL
set_option maxHeartbeats 4000000
namespace DL
open PySem PySem.Spec PyProof.Rows L2
def txtOf (e : Int × Value) : Str := match e.2 with
  | .str k _ => k
  | _ => Str.empty
def TxtE (P : Program) (w : World) (e : Int × Value) : Prop := ∃ k tk, e.2 = Value.str k tk ∧ e.1 = (strKind P w).hash k
def SetS (P : Program) (w : World) (h : Heap) (a : Addr) (S : Str → Bool) (n : Nat) : Prop :=
  ∃ o es ep t, h.get? a = some o ∧ o.ExactSet ∧ o.data = .set es ep t ∧ (∀ e ∈ es.toList, TxtE P w e) ∧ (es.toList.map txtOf).Nodup ∧ (∀ k, S k = true ↔ k ∈ es.toList.map txtOf) ∧
    es.size < scanBound ∧ t.fits es.size = true ∧ es.size = n ∧ Ris t.place.toList ∧ (w.params.followText "set-order" = true ∨ t.led = true)
section
variable {P : Program} {w : World} {h h' : Heap} {a : Addr} {S : Str → Bool} {n : Nat}
theorem SetS.at (R : SetS P w h a S n) (k : ∀ o, h.get? a = some o → h'.get? a = some o) : SetS P w h' a S n := by
  obtain ⟨o, es, ep, t, ho, r⟩ := R
  exact ⟨o, es, ep, t, k o ho, r⟩
end
section
variable {P : Program} {w : World} {A : Around} {E : Value → Shared → Prop} {s : Shared} {a : Addr} {S : Str → Bool} {n : Nat}
end
end DL
set_option maxHeartbeats 4000000
namespace DL
open PySem PySem.Spec PyProof.Rows L2
theorem SetS.congr {P : Program} {w : World} {h : Heap} {a : Addr} {S S' : Str → Bool} {n : Nat} (R : SetS P w h a S n) (e : ∀ k, S' k = S k) : SetS P w h a S' n := (funext e : S' = S) ▸ R
section
variable {P : Program} {w : World} {A : Around} {E : Value → Shared → Prop} {s : Shared}
end
end DL
set_option maxHeartbeats 4000000
namespace DL
open PySem PySem.Spec PyProof.Rows L2
section
variable {X : Cx}
end
end DL
namespace DL
open PySem PySem.Spec L2
section
variable {X : Cx}
end
end DL
namespace DL
open PySem PySem.Spec L2
section
variable {X : Cx} {Wx : WX}
end
end DL
namespace DL
open PySem PySem.Spec L2 TL
end DL
namespace DL
open PySem PySem.Spec L2 TL
section
variable {X : Cx} {Wx : WX}
end
end DL
namespace DL
open PySem PySem.Spec L2
section
variable {X : Cx} {Wx : WX}
def aAdd (fa fb : FE) : FA := fun d S => (fa d S).bind fun x S1 => (fb d S1).bind fun y S2 => match listM x S2, listM y S2 with
  | some a, some b => guard (decide (a.length + b.length ≤ sizeLine)) (.ok (a ++ b) S2)
  | _, _ => .bad
theorem ER.same {w : Wd} {d : En} {σ : L2.St} {i : Nat} {u : U} {v : V} (e : ER (KMof X) w d σ) (h : σ[i]? = some (some v)) (r : VR (KMof X) w u v) : ER (KMof X) w (d.set i (some u)) σ := by
  have z := e.set i r
  have q : σ.set i (some v) = σ := by
    apply List.ext_getElem?
    intro j
    by_cases hj : i = j
    · subst hj
      rw [List.getElem?_set_self (List.getElem?_eq_some_iff.mp h).1, h]
    · rw [List.getElem?_set_ne hj]
  rw [q] at z
  exact z
end
end DL
namespace DL
open PySem PySem.Spec L2 PySem.W
def clsInit (s : Stmt) : Stmt := match s with
  | .ClassDef _ _ _ body _ _ _ _ _ _ _ => body.getD 0 (.Pass ⟨0, 0, 0, 0⟩)
  | s => s
def oxB (K : Frag) (C I : Addr) (f : Str) (bm : List Value) : Bool :=
  decide (findIn K (.ref C) "__setattr__" = some (some (.builtin "object.__setattr__"))) && (decide (subIn K (.ref C) (.type "BaseException") = some true) && (decide (typeIn K (.ref C) = some (.type "type")) && (keepIn K (.ref C) && (excOver K C bm && (hasDictIn K C && (decide (typeIn K (.ref I) = some (.type "function")) && (decide (findIn K (.ref C) f = some none) &&
  (decide (findIn K (.ref C) "__getattribute__" = some (some (.builtin "BaseException.__getattribute__"))) && (decide (findIn K (.ref C) "__getattr__" = some none) && (decide (findIn K (.ref C) "__class__" = some (some (.builtin "object.__class__"))) && (decide (specialIn K (.builtin "object.__class__") "__get__" = some (some (.builtin "getset_descriptor.__get__"))) && (decide (takesIn K (.builtin "object.__class__") = some true) && decide (mroIn K C (.type "object") = some true)))))))))))))
structure XC (K : Frag) (mg : Str → Option Value) (x xi f : Str) (C I : Addr) (fd : FuncData) (st : Stmt) (newId : String) (bm : List Value) : Prop where
  mc : mg x = some (.ref C)
  ox : OxC K C newId bm
  ic : findIn K (.ref C) "__init__" = some (some (.ref I))
  ti : typeIn K (.ref I) = some (.type "function")
  fi : Fun K "__init__" (x ++ ".__init__") st I fd
  bi : Binds K fd ["self", xi] []
  nf : findIn K (.ref C) f = some none
  xf : XfC K C
  ec : ExcC K C
theorem xc_mk {K : Frag} {mg : Str → Option Value} {x xi f : Str} {C I : Addr} {fd : FuncData} {st : Stmt} {newId : String} {bm : List Value} {nm q : Str} {N : Addr} {bs : List Value} {sn : List Str} {sub : List Value} {ab : Bool} {col : Option Bool} {dd : Option Addr} {m0 m1 m2 m3 m5 : Option Value}
    (mc : mg x = some (.ref C)) (l : K.lookup C = some (excClassObj nm q C N bs bm true sn sub ab col dd m0 m1 m2 m3 m5 newId)) (ic : findIn K (.ref C) "__init__" = some (some (.ref I))) (fi : Fun K "__init__" (x ++ ".__init__") st I fd) (bi : Binds K fd ["self", xi] []) (h : oxB K C I f bm = true) : XC K mg x xi f C I fd st newId bm := by
  unfold oxB at h
  simp only [Bool.and_eq_true, decide_eq_true_eq] at h
  obtain ⟨h1, h2, h3, h4, h5, h6, h7, h8, h9, h10, h11, h12, h13, h14⟩ := h
  exact ⟨mc, ⟨⟨nm, q, N, bs, sn, sub, ab, col, dd, m0, m1, m2, m3, m5, l⟩, h1, h2, h3, h4, h5, h6⟩, ic, h7, fi, bi, h8, ⟨h9, h10, h2, h6⟩, ⟨h9, h10, h2, h6, h11, h12, h13, h14⟩⟩
def isB (K : Frag) : List (Addr × Value × Bool) → Bool
  | [] => true
  | (C, v, b) :: r => decide (kitOne K (.ref C) v = some b) && isB K r
theorem IsOk.n {K : Frag} {mg : Str → Option Value} : isB K [] = true → IsOk K mg [] := fun _ => ⟨fun _ _ _ h => (by cases h), fun _ _ _ h => (by cases h)⟩
theorem IsOk.o {K : Frag} {mg : Str → Option Value} {tab : IsTab} {c c2 : Str} {C C2 : Addr} {b : Bool} {L : List (Addr × Value × Bool)} (hm : mg c = some (.ref C)) (hm2 : mg c2 = some (.ref C2)) (E : ExcC K C) (r : isB K L = true → IsOk K mg tab) : isB K ((C, .ref C2, b) :: L) = true → IsOk K mg (((c, .inl c2), b) :: tab) := fun h => by
  unfold isB at h
  rw [Bool.and_eq_true] at h
  have r := r h.2
  have hk := of_decide_eq_true h.1
  refine ⟨fun x y d hl D D2 hD hD2 => ?_, fun x n d hl D hD => ?_⟩
  · unfold lookI at hl
    split at hl
    · rename_i q
      obtain ⟨rfl, q⟩ := q
      cases q
      cases hl
      rw [hm] at hD
      rw [hm2] at hD2
      cases hD
      cases hD2
      exact ⟨E, hk⟩
    · exact r.own x y d hl D D2 hD hD2
  · unfold lookI at hl
    split at hl
    · rename_i q
      cases q.2
    · exact r.blt x n d hl D hD
theorem IsOk.t {K : Frag} {mg : Str → Option Value} {tab : IsTab} {c : Str} {n : String} {C : Addr} {b : Bool} {L : List (Addr × Value × Bool)} (hm : mg c = some (.ref C)) (E : ExcC K C) (r : isB K L = true → IsOk K mg tab) : isB K ((C, .type n, b) :: L) = true → IsOk K mg (((c, .inr n), b) :: tab) := fun h => by
  unfold isB at h
  rw [Bool.and_eq_true] at h
  have r := r h.2
  have hk := of_decide_eq_true h.1
  refine ⟨fun x y d hl D D2 hD hD2 => ?_, fun x n d hl D hD => ?_⟩
  · unfold lookI at hl
    split at hl
    · rename_i q
      cases q.2
    · exact r.own x y d hl D D2 hD hD2
  · unfold lookI at hl
    split at hl
    · rename_i q
      obtain ⟨rfl, q⟩ := q
      cases q
      cases hl
      rw [hm] at hD
      cases hD
      exact ⟨E, hk⟩
    · exact r.blt x n d hl D hD
def exB (K : Frag) (c : Value) : List (Addr × Bool) → Bool
  | [] => true
  | (C, b) :: r => decide (exmOne K (.ref C) c = some b) && exB K c r
def lookM : List (Str × Bool) → Str → Option Bool
  | [], _ => none
  | (c, b) :: r, z => if c = z then some b else lookM r z
def ExOk (K : Frag) (mg : Str → Option Value) (c : Value) (m : Str → Option Bool) : Prop := ∀ z b, m z = some b → ∀ cls, mg z = some cls → exmOne K cls c = some b ∧ ∃ C, cls = .ref C
theorem ExOk.n {K : Frag} {mg : Str → Option Value} {c : Value} : exB K c [] = true → ExOk K mg c (lookM []) := fun _ z b h => by cases h
theorem ExOk.o {K : Frag} {mg : Str → Option Value} {c : Value} {x : Str} {C : Addr} {b : Bool} {L : List (Addr × Bool)} {tab : List (Str × Bool)} (hm : mg x = some (.ref C)) (r : exB K c L = true → ExOk K mg c (lookM tab)) : exB K c ((C, b) :: L) = true → ExOk K mg c (lookM ((x, b) :: tab)) := fun h z d hl cls hc => by
  unfold exB at h
  rw [Bool.and_eq_true] at h
  unfold lookM at hl
  split at hl
  · rename_i q
    subst q
    cases hl
    rw [hm] at hc
    cases hc
    exact ⟨of_decide_eq_true h.1, C, rfl⟩
  · exact r h.2 z d hl cls hc
theorem fn_bad {P : Program} {w : World} {K : PySem.W.Frag} {mg : Str → Option Value} {base : Heap} {f : Addr} {fd : FuncData} {ps : List Str} {g : List U → Sto → R U} (hg : ∀ us S, g us S = .bad) (n k : Nat) : FnOk P w K mg base (L2.CX P w) k f fd ps (spOf ⟨K, mg, P, w⟩ n g) := by
  have no : ∀ vs H Q E, ¬ spOf ⟨K, mg, P, w⟩ n g vs H Q E := fun vs H Q E ⟨w, us, _, _, _, _, q⟩ => by rw [hg] at q; exact q
  exact ⟨fun vs H Q E h => (no vs H Q E h).elim, fun A outer s H as us vs Q E _ _ _ _ h => (no vs H Q E h).elim⟩
end DL
namespace DL
open PySem PySem.Spec L2
section
variable {X : Cx} {Wx : WX}
end
end DL
namespace DL
open PySem PySem.Spec L2
def getF : List (Str × U) → Str → Option U
  | [], _ => none
  | (g, u) :: r, f => if f == g then some u else getF r f
def setF (f : Str) (u : U) : List (Str × U) → List (Str × U)
  | [] => [(f, u)]
  | (g, v) :: r => if g = f then (g, u) :: r else (g, v) :: setF f u r
section
variable {K : KM} {w : Wd}
theorem getF_ok {f : Str} : ∀ {fs : List (Str × U)} {xs : List V}, VRs K w (fs.map (·.2)) xs → (∀ u, getF fs f = some u → ∃ v, ((fs.map (·.1)).zip xs).lookup f = some v ∧ VR K w u v) ∧ (getF fs f = none → ((fs.map (·.1)).zip xs).lookup f = none)
  | [], xs, _ => ⟨fun u h => (by cases h), fun _ => rfl⟩
  | (g, y) :: fs, xs, h => by
    cases h with
    | @cons _ _ x xs r rs =>
      obtain ⟨h1, h2⟩ := getF_ok (f := f) (fs := fs) rs
      have e : (((g, y) :: fs).map (·.1)).zip (x :: xs) = (g, x) :: (fs.map (·.1)).zip xs := rfl
      rw [e]
      unfold getF List.lookup
      cases hb : f == g with
      | true => exact ⟨fun u q => (by cases q; exact ⟨x, rfl, r⟩), fun q => (by cases q)⟩
      | false => exact ⟨h1, h2⟩
theorem setF_ok {f : Str} {u : U} {v : V} (r : VR K w u v) : ∀ {fs : List (Str × U)} {xs : List V}, VRs K w (fs.map (·.2)) xs → ∃ xs', putF f v ((fs.map (·.1)).zip xs) = ((setF f u fs).map (·.1)).zip xs' ∧ VRs K w ((setF f u fs).map (·.2)) xs'
  | [], xs, _ => ⟨[v], rfl, .cons r .nil⟩
  | (g, y) :: fs, xs, h => by
    cases h with
    | @cons _ _ x xs q qs =>
      obtain ⟨xs', e, rs⟩ := setF_ok r (fs := fs) qs
      have e0 : (((g, y) :: fs).map (·.1)).zip (x :: xs) = (g, x) :: (fs.map (·.1)).zip xs := rfl
      rw [e0]
      unfold putF setF
      by_cases hg : g = f
      · rw [if_pos hg, if_pos hg]
        exact ⟨v :: xs, rfl, .cons r qs⟩
      · rw [if_neg hg, if_neg hg, e]
        exact ⟨x :: xs', rfl, .cons q rs⟩
def isIns (c m : Str) (u : U) (S : Sto) : Bool := match u with
  | .loc n => match S[n]? with
    | some (.ins c' fs) => decide (c' = c) && (getF fs m).isNone
    | _ => false
  | _ => false
theorem isIns_ok {c m : Str} {u : U} {v : V} {C : Addr} (s : SR K w) (hm : K.mg c = some (.ref C)) (r : VR K w u v) (h : isIns c m u w.S = true) : ∃ a dx fs, v = .ref a ∧ w.H a = some (.ins C dx fs) ∧ fs.lookup m = none := by
  unfold isIns at h
  split at h
  · rename_i n
    split at h
    · rename_i c' fs hS
      rw [Bool.and_eq_true] at h
      have e := of_decide_eq_true h.1
      subst e
      cases r with
      | @loc _ a hn =>
        obtain ⟨C', dx, xs, hC, e, rs⟩ := s.obj n a _ hn hS
        rw [hm] at hC
        cases hC
        exact ⟨a, dx, _, rfl, e, (getF_ok rs).2 (Option.isNone_iff_eq_none.mp h.2)⟩
    · cases h
  · cases h
end
section
variable {X : Cx} {Wx : WX}
def fGet (c f : Str) (fe : FE) : FE := fun d S => (fe d S).bind fun u S1 => match u with
  | .loc n => match S1[n]? with
    | some (.ins c' fs) => if c' = c then oU (getF fs f) S1 else .bad
    | _ => .bad
  | _ => .bad
theorem se_get {e : Expr} {fe : FE} {c f : Str} {C : Addr} {pos : Pos} (hm : X.mg c = some (.ref C)) (cl : Cls X.K C) (na : NoAttr X.K C f) (he : SimE X Wx e fe) (hb : attributeBase e f X.env (eval e X.env) = eval e X.env := by rfl) : SimE X Wx (.Attribute e f pos) (fGet c f fe) := by
  obtain ⟨t, p, he⟩ := he.out
  refine SimE.mk (L2.pe_fld p hb) (fun w d σ Q s e h => ?_)
  refine he w d σ _ s e ((Pst.of_bind h).mono (fun u S1 h1 w1 v eS st s1 r => ?_) fun _ _ q => q)
  subst eS
  split at h1
  · rename_i n
    split at h1
    · rename_i c' fs hS
      split at h1
      · rename_i hc
        subst hc
        unfold oU at h1
        split at h1
        · rename_i y hy
          cases r with
          | @loc _ a hn =>
            obtain ⟨C', dx, xs, hC, e, rs⟩ := s1.obj n a _ hn hS
            rw [show (KMof X).mg c' = some (.ref C) from hm] at hC
            cases hC
            obtain ⟨v, hv, rv⟩ := (getF_ok rs).1 y hy
            exact ⟨a, C, dx, _, v, rfl, e, cl, na, hv, h1 w1 v rfl st s1 rv⟩
        · exact h1.elim
      · exact h1.elim
    · exact h1.elim
  · exact h1.elim
def fPutF (c f : Str) (fo fe : FE) : FS := fun d S => toS d (fe d S) fun v S1 => toS d (fo d S1) fun u S2 => match u with
  | .loc n => match S2[n]? with
    | some (.ins c' fs) => if c' = c ∧ fs.length < 1000 then .ok (.nx d) (S2.set n (.ins c (setF f v fs))) else .bad
    | _ => .bad
  | _ => .bad
theorem zip_le {fs : List (Str × U)} {xs : List V} : ((fs.map (·.1)).zip xs).length ≤ fs.length := by
  rw [List.length_zip, List.length_map]
  exact Nat.min_le_left _ _
theorem ss_putF {o e : Expr} {fo fe : FE} {c f : Str} {C : Addr} {p' pos : Pos} (hm : X.mg c = some (.ref C)) (cl : Cls X.K C) (na : NoAttr X.K C f) (ho : SimE X Wx o fo) (he : SimE X Wx e fe) (hs : swapsWith e (some (.Attribute o f p')) pos.line X.env = pure false := by rfl) : SimS X Wx (.Assign [.Attribute o f p'] e pos) (fPutF c f fo fe) := by
  obtain ⟨tt, p, ho⟩ := ho.out
  obtain ⟨te, pe, he⟩ := he.out
  refine SimS.mk (ps_fld p pe hs) (fun w d σ D s e h => ?_)
  refine he w d σ _ s e ((toS_post s e h).mono (fun y S1 h1 w1 v eS st s1 r => ?_) fun _ _ q => q)
  subst eS
  have e1 := e.ext st.x s
  refine ho w1 d σ _ s1 e1 ((toS_post s1 e1 (Pst.mono h1 (fun _ _ q => q.up st) fun _ _ q => q)).mono (fun u S2 h2 w2 v2 eS2 st2 s2 r2 => ?_) fun _ _ q => q)
  subst eS2
  split at h2
  · rename_i n
    split at h2
    · rename_i c' fs hS
      split at h2
      · rename_i hc
        obtain ⟨hc, hl⟩ := hc
        subst hc
        cases r2 with
        | @loc _ a hn =>
          obtain ⟨C', dx, xs, hC, e, rs⟩ := s2.obj n a _ hn hS
          rw [show (KMof X).mg c' = some (.ref C) from hm] at hC
          cases hC
          obtain ⟨xs', ex, rs'⟩ := setF_ok (f := f) (r.ext st2.x s1) rs
          refine ⟨a, C, dx, _, rfl, e, cl, na, Nat.lt_of_le_of_lt zip_le hl, ?_⟩
          rw [ex]
          have hd : Ob.ins c' fs ≠ .dead := by intro z; cases z
          have st3 := Stp.put s2 (o := .ins C dx (((setF f y fs).map (·.1)).zip xs')) (b := .ins c' (setF f y fs)) hn hS hd
          exact h2 (w2.put n a _ _) rfl (st2.trans st3) (s2.put hn hS hd ⟨C, dx, xs', hm, upd_same, rs'.ext st3.x s2⟩) σ ((e1.ext st2.x s1).ext st3.x s2)
      · exact h2.elim
    · exact h2.elim
  · exact h2.elim
def tMethSD (C : Addr) (m : Str) (sp : Sp) (E : L2.St → XK) (ta : TE) (t : TA) : TE := fun σ H Q => ta σ H fun x H1 => ∃ a dx fs, x = .ref a ∧ H1 a = some (.ins C dx fs) ∧ fs.lookup m = none ∧ t σ H1 fun vs H2 => sp (x :: vs) H2 Q (E σ)
section
variable {CX : CXT} {k : Nat} {f C : Addr} {fd : FuncData} {ps : List Str} {sp : Sp} {E : L2.St → XK} {x m : Str} {p pos apos : Pos} {e o : Expr} {es : List Expr} {ta : TE} {t : TA}
theorem pe_methSD {pl : Sem Bool} (he : PE X o ta) (c : Cls X.K C) (hm : Meth X.K C m f) (F : FnOk X.prog X.w X.K X.mg X.base CX k f fd ps sp) (hr : Room k X.A) (hb : Binds X.K fd ps []) (hx : ∀ σ, PassesAt CX X σ (E σ)) (ha : PA X (e :: es) t)
    (hst : starEach (e :: es) X.env = (false, eval e X.env) :: starEach es X.env) (hpl : (backTo pos (starEach es X.env)).any (·.1) = false)
    (ht : eval (.Call (.Attribute o m apos) (e :: es) [] pos) X.env = (do
      let ov ← eval o X.env
      standAt apos.atName
      let (f, first) ← holding [ov] (getMethod ov m pl)
      callWith pos f first (backTo pos (starEach (e :: es) X.env)) (backToKw pos (keywordEach [] X.env)))) : PE X (.Call (.Attribute o m apos) (e :: es) [] pos) (tMethSD C m sp E ta t) := by
  refine ⟨fun pins s σ H Q I h => PySem.W.methodCall_KW (pl := pl) (thn (he.run pins s σ H _ I h) fun u s1 ⟨x, H1, I1, rx, a, dx, fs, ex, ea, l, q⟩ => ?_) ht⟩
  subst ex
  obtain rfl : u = Value.ref a := rx
  refine getmeth_ok I1 ea c hm l (PySem.W.callWith_K (first := [.ref a]) (h₀ := X.base) I.ok.mod.kin hm.kp (thn (ha.run pos pins s1 σ H1 _ I1 q) fun us s2 ⟨vs, H2, I2, r, q2⟩ => ⟨I2.kIn, ?_⟩) hst hpl)
  exact run_fnSD (us := .ref a :: us) (vs := .ref a :: vs) (E := E) F hr hb .nil (hx σ) I2 (.cons rfl r) (by rw [List.append_nil]; exact q2)
theorem pe_methSD0 {pl : Sem Bool} (he : PE X o ta) (c : Cls X.K C) (hm : Meth X.K C m f) (F : FnOk X.prog X.w X.K X.mg X.base CX k f fd ps sp) (hr : Room k X.A) (hb : Binds X.K fd ps []) (hx : ∀ σ, PassesAt CX X σ (E σ))
    (ht : eval (.Call (.Attribute o m apos) [] [] pos) X.env = (do
      let ov ← eval o X.env
      standAt apos.atName
      let (f, first) ← holding [ov] (getMethod ov m pl)
      callWith pos f first (backTo pos (starEach [] X.env)) (backToKw pos (keywordEach [] X.env)))) : PE X (.Call (.Attribute o m apos) [] [] pos) (tMethSD C m sp E ta tNil) := by
  refine ⟨fun pins s σ H Q I h => PySem.W.methodCall_KW (pl := pl) (thn (he.run pins s σ H _ I h) fun u s1 ⟨x, H1, I1, rx, a, dx, fs, ex, ea, l, q⟩ => ?_) ht⟩
  subst ex
  obtain rfl : u = Value.ref a := rx
  exact getmeth_ok I1 ea c hm l (PySem.W.callWith_K0 (first := [.ref a]) I1.kIn hm.kp (run_fnSD (us := [.ref a]) (vs := [.ref a]) (E := E) F hr hb .nil (hx σ) I1 (.cons rfl .nil) q))
end
def fMeth (c m : Str) (n : Nat) (g : List U → Sto → R U) (fo : FE) (fa : FA) : FE := fun d S => (fo d S).bind fun u S1 => guard (isIns c m u S1) ((fa d S1).bind fun us S2 => guard (us.length + 1 == n) (g (u :: us) S2))
section
variable {k n : Nat} {f C : Addr} {fd : FuncData} {ps : List Str} {c m : Str} {p pos apos : Pos} {e o : Expr} {es : List Expr} {fo : FE} {fa : FA} {g : List U → Sto → R U}
theorem meth_core {to : TE} {ta : TA} (hm : X.mg c = some (.ref C))
    (ho : ∀ (w : Wd) (d : En) (σ : L2.St) (Q : VK), SR (KMof X) w → ER (KMof X) w d σ → Pst (fo d w.S) (OkE X w Q) (XPost X Wx σ w) → to σ w.H Q)
    (ha : ∀ (w : Wd) (d : En) (σ : L2.St) (Q : List V → Hp → Prop), SR (KMof X) w → ER (KMof X) w d σ → Pst (fa d w.S) (OkA X w Q) (XPost X Wx σ w) → ta σ w.H Q)
    (w : Wd) (d : En) (σ : L2.St) (Q : VK) (s : SR (KMof X) w) (e : ER (KMof X) w d σ) (h : Pst (fMeth c m n g fo fa d w.S) (OkE X w Q) (XPost X Wx σ w)) :
    tMethSD C m (spOf (KMof X) n g) (fun σ c d H => Wx c d σ H) to ta σ w.H Q := by
  refine ho w d σ _ s e ((Pst.of_bind h).mono (fun u S1 h1 w1 v eS st s1 r => ?_) fun _ _ q => q)
  subst eS
  obtain ⟨hi, h1⟩ := guard_post h1
  obtain ⟨a, dx, fs, rfl, ea, l⟩ := isIns_ok s1 hm r hi
  refine ⟨a, dx, fs, rfl, ea, l, ?_⟩
  refine ha w1 d σ _ s1 (e.ext st.x s) ((Pst.of_bind h1).mono (fun us S2 h2 w2 vs eS2 st2 s2 rs => ?_) fun _ _ q => q.up st)
  subst eS2
  obtain ⟨hl, h2⟩ := guard_post h2
  exact ⟨w2, u :: us, rfl, s2, .cons (r.ext st2.x s1) rs, eq_of_beq hl, h2.mono (fun y S3 q w3 v3 e3 st3 s3 r3 => q w3 v3 e3 ((st.trans st2).trans st3) s3 r3) fun x S3 q w3 cls dd e3 st3 s3 xr => q w3 cls dd e3 ((st.trans st2).trans st3) s3 xr⟩
theorem se_meth {pl : Sem Bool} (F : FnOk X.prog X.w X.K X.mg X.base (L2.CX X.prog X.w) k f fd ps (spOf (KMof X) n g)) (hr : Room k X.A) (hx : PasX X Wx) (hm : X.mg c = some (.ref C)) (cl : Cls X.K C) (me : Meth X.K C m f) (hb : Binds X.K fd ps []) (ho : SimE X Wx o fo) (ha : SimA X Wx (e :: es) fa)
    (hst : starEach (e :: es) X.env = (false, eval e X.env) :: starEach es X.env := by rfl) (hpl : (backTo pos (starEach es X.env)).any (·.1) = false := by rfl)
    (ht : eval (.Call (.Attribute o m apos) (e :: es) [] pos) X.env = (do
      let ov ← eval o X.env
      standAt apos.atName
      let (f, first) ← holding [ov] (getMethod ov m pl)
      callWith pos f first (backTo pos (starEach (e :: es) X.env)) (backToKw pos (keywordEach [] X.env))) := by rfl) : SimE X Wx (.Call (.Attribute o m apos) (e :: es) [] pos) (fMeth c m n g fo fa) := by
  obtain ⟨to, po, ho⟩ := ho.out
  obtain ⟨ta, pa, ha⟩ := ha.out
  exact SimE.mk (pe_methSD (pl := pl) po cl me F hr hb hx pa hst hpl ht) (fun w d σ Q s e h => meth_core hm ho ha w d σ Q s e h)
theorem se_meth0 {pl : Sem Bool} (F : FnOk X.prog X.w X.K X.mg X.base (L2.CX X.prog X.w) k f fd ps (spOf (KMof X) n g)) (hr : Room k X.A) (hx : PasX X Wx) (hm : X.mg c = some (.ref C)) (cl : Cls X.K C) (me : Meth X.K C m f) (hb : Binds X.K fd ps []) (ho : SimE X Wx o fo)
    (ht : eval (.Call (.Attribute o m apos) [] [] pos) X.env = (do
      let ov ← eval o X.env
      standAt apos.atName
      let (f, first) ← holding [ov] (getMethod ov m pl)
      callWith pos f first (backTo pos (starEach [] X.env)) (backToKw pos (keywordEach [] X.env))) := by rfl) : SimE X Wx (.Call (.Attribute o m apos) [] [] pos) (fMeth c m n g fo aNil) := by
  obtain ⟨to, po, ho⟩ := ho.out
  exact SimE.mk (pe_methSD0 (pl := pl) po cl me F hr hb hx ht) (fun w d σ Q s e h => meth_core (fa := aNil) hm ho (fun w d σ Q s e h => h w [] rfl (Stp.refl w) s .nil) w d σ Q s e h)
end
def tMakeSD (C : Addr) (sp : Sp) (E : L2.St → XK) (t : TA) : TE := fun σ H Q => t σ H fun vs H1 => ∀ x dx, H1 x = none → H1 dx = none → dx ≠ x → sp (.ref x :: vs) (upd (upd H1 dx (.own x)) x (.ins C dx [])) (fun v H2 => v = .non ∧ Q (.ref x) H2) (E σ)
section
variable {CX : CXT} {k : Nat} {f C : Addr} {fd : FuncData} {ps : List Str} {sp : Sp} {E : L2.St → XK} {x : Str} {p pos : Pos} {e : Expr} {es : List Expr} {t : TA}
theorem run_makeSD {pins : List (Addr × Obj)} {σ : L2.St} {H : Hp} {s : Shared} {Q : VK} {us : List Value} {vs : List V} (M : Mk X.K C f) (F : FnOk X.prog X.w X.K X.mg X.base CX k f fd ps sp) (hr : Room (k + 1) X.A) (hb : Binds X.K fd ps []) (hx : PassesAt CX X σ (E σ)) (hxm : ∀ (pins : List (Addr × Obj)) (H : Hp) (s : Shared) (e : Value) (s' : Shared), Inv X pins σ H s → CX X.stack H s (E σ) e s' → X.xe e s') (I : Inv X pins σ H s) (r : Vals vs us)
    (h : ∀ x dx, H x = none → H dx = none → dx ≠ x → sp (.ref x :: vs) (upd (upd H dx (.own x)) x (.ins C dx [])) (fun v H2 => v = .non ∧ Q (.ref x) H2) (E σ)) : wpAny (model X.prog X.w) X.A (call (.ref C) us) (EP X pins σ Q) X.xe s := by
  have hq := h (s.heap.objs.size + 1) s.heap.objs.size (I.hok.fresh (Nat.le_succ _)) (I.hok.fresh (Nat.le_refl _)) (Nat.ne_of_lt (Nat.lt_succ_self _))
  have J := Inv.made (C := C) I
  have rr : Vals (V.ref (s.heap.objs.size + 1) :: vs) (Value.ref (s.heap.objs.size + 1) :: us) := .cons rfl r
  have hl : (Value.ref (s.heap.objs.size + 1) :: us ++ []).length = ps.length := by
    rw [List.append_nil, ← rr.length]
    exact F.len _ _ _ _ hq
  have bb := hb _ (Value.ref (s.heap.objs.size + 1) :: us) J.kIn hl
  rw [List.append_nil] at bb
  refine wpAny_call (make_map (f := f) I.kIn M.makes M.init (beq_iff_eq.mp M.fn) (codeAny_mono (F.run _ X.stack _ _ _ _ _ _ (E σ) (hr.make C us []) (J.env0.make C us []) bb rr hq) fun rs s' hq' => ?_))
  cases rs with
  | error er => exact hxm pins _ _ er s' J hq'
  | ok fl =>
    cases fl with
    | ret u =>
      obtain ⟨v, H', I3, rv, ev, q3⟩ := J.after hq'
      subst ev
      exact ⟨rv, ⟨V.ref (s.heap.objs.size + 1), H', I3, rfl, q3⟩⟩
    | next => exact False.elim hq'
    | brk => exact False.elim hq'
    | cont => exact False.elim hq'
theorem pe_makeSD (M : Mk X.K C f) (F : FnOk X.prog X.w X.K X.mg X.base CX k f fd ps sp) (hr : Room (k + 1) X.A) (hg : Gl X x) (hm : X.mg x = some (.ref C)) (hb : Binds X.K fd ps []) (hx : ∀ σ, PassesAt CX X σ (E σ)) (ha : PA X (e :: es) t)
    (hdb : (x == ("__debug__" : Str)) = false) (he : starEach (e :: es) X.env = (false, eval e X.env) :: starEach es X.env) (hpl : (backTo pos (starEach es X.env)).any (·.1) = false) : PE X (.Call (.Name x p) (e :: es) [] pos) (tMakeSD C sp E t) := by
  refine ⟨fun pins s σ H Q I h => wpAny_Call_Name_kw (ld_glob I hg hm ?_ hdb)⟩
  exact PySem.W.callWith_K (h₀ := X.base) I.ok.mod.kin M.kp (thn (ha.run pos pins s σ H _ I h) fun us s1 ⟨vs, H1, I1, r, q⟩ => ⟨I1.kIn, run_makeSD M F hr hb (hx σ) (fun pins H s e s' I c => hx σ pins H s e s' I c) I1 r q⟩) he hpl
end
def fMake (c : Str) (n : Nat) (g : List U → Sto → R U) (fa : FA) : FE := fun d S => (fa d S).bind fun us S1 => guard (us.length + 1 == n) ((g (.loc S1.length :: us) (S1 ++ [.ins c []])).bind fun u S2 => match u with
  | .non => .ok (.loc S1.length) S2
  | _ => .bad)
section
variable {k n : Nat} {f C : Addr} {fd : FuncData} {ps : List Str} {x : Str} {p pos : Pos} {e : Expr} {es : List Expr} {fa : FA} {g : List U → Sto → R U}
theorem make_core {ta : TA} (hm : X.mg x = some (.ref C))
    (ha : ∀ (w : Wd) (d : En) (σ : L2.St) (Q : List V → Hp → Prop), SR (KMof X) w → ER (KMof X) w d σ → Pst (fa d w.S) (OkA X w Q) (XPost X Wx σ w) → ta σ w.H Q)
    (w : Wd) (d : En) (σ : L2.St) (Q : VK) (s : SR (KMof X) w) (e : ER (KMof X) w d σ) (h : Pst (fMake x n g fa d w.S) (OkE X w Q) (XPost X Wx σ w)) :
    tMakeSD C (spOf (KMof X) n g) (fun σ c d H => Wx c d σ H) ta σ w.H Q := by
  refine ha w d σ _ s e ((Pst.of_bind h).mono (fun us S1 h1 w1 vs eS st s1 rs => ?_) fun _ _ q => q)
  subst eS
  obtain ⟨hl, h1⟩ := guard_post h1
  intro a dx na nd hda
  have st1 := Stp.new s1 (o := .own a) nd
  have s2 : SR (KMof X) (w1.new dx (.own a)) := s1.new nd
  have na2 : (w1.new dx (.own a)).H a = none := by show upd w1.H dx _ a = none; rw [upd_ne (Ne.symm hda)]; exact na
  have st2 := Stp.push s2 (o := .ins C dx []) (b := .ins x []) na2
  have s3 : SR (KMof X) ((w1.new dx (.own a)).push a (.ins C dx []) (.ins x [])) := s2.push na2 ⟨C, dx, [], hm, upd_same, .nil⟩
  have hloc : ((w1.new dx (.own a)).push a (.ins C dx []) (.ins x [])).m[w1.S.length]? = some a := by
    show (w1.m ++ [a])[w1.S.length]? = some a
    rw [← s1.len]
    simp
  refine ⟨(w1.new dx (.own a)).push a (.ins C dx []) (.ins x []), .loc w1.S.length :: us, rfl, s3, .cons (.loc hloc) ((rs.ext st1.x s1).ext st2.x s2), eq_of_beq hl, ?_⟩
  refine (Pst.of_bind h1).mono (fun u S2 h2 w3 v e3 st3 s3' rv => ?_) fun y S2 q w3 cls dd e3 st3 s3' xr => q w3 cls dd e3 (((st.trans st1).trans st2).trans st3) s3' xr
  cases rv with
  | non => exact ⟨rfl, h2 w3 (.ref a) e3 (((st.trans st1).trans st2).trans st3) s3' (.loc (st3.x.at hloc))⟩
  | _ => exact h2.elim
theorem se_make (F : FnOk X.prog X.w X.K X.mg X.base (L2.CX X.prog X.w) k f fd ps (spOf (KMof X) n g)) (hr : Room (k + 1) X.A) (hx : PasX X Wx) (hg : Gl X x) (hm : X.mg x = some (.ref C)) (M : Mk X.K C f) (hb : Binds X.K fd ps []) (ha : SimA X Wx (e :: es) fa)
    (hdb : (x == ("__debug__" : Str)) = false := by decide) (he : starEach (e :: es) X.env = (false, eval e X.env) :: starEach es X.env := by rfl) (hpl : (backTo pos (starEach es X.env)).any (·.1) = false := by rfl) : SimE X Wx (.Call (.Name x p) (e :: es) [] pos) (fMake x n g fa) := by
  obtain ⟨ta, pa, ha⟩ := ha.out
  exact SimE.mk (pe_makeSD M F hr hg hm hb hx pa hdb he hpl) (fun w d σ Q s e h => make_core hm ha w d σ Q s e h)
end
end
def clsM (s : Stmt) (j : Nat) : Stmt := match s with
  | .ClassDef _ _ _ body _ _ _ _ _ _ _ => body.getD j (.Pass ⟨0, 0, 0, 0⟩)
  | s => s
def clB (K : PySem.W.Frag) (C : Addr) : Bool := PySem.W.plainGet K C Str.empty && (PySem.W.hasDictIn K C && (PySem.W.plainOver K C && (decide (PySem.W.findIn K (.ref C) "__setattr__" = some (some (.builtin "object.__setattr__"))) && (PySem.W.makesIn K C && PySem.W.keepIn K (.ref C)))))
theorem cl_mk {K : PySem.W.Frag} {C : Addr} (h : clB K C = true) : Cls K C ∧ PySem.W.makesIn K C = true ∧ PySem.W.keepIn K (.ref C) = true := by
  unfold clB at h
  simp only [Bool.and_eq_true, decide_eq_true_eq] at h
  exact ⟨⟨h.1, h.2.1, h.2.2.1, h.2.2.2.1⟩, h.2.2.2.2.1, h.2.2.2.2.2⟩
def nasB (K : PySem.W.Frag) (C : Addr) (fs : List Str) : Bool := fs.all fun f => decide (PySem.W.findIn K (.ref C) f = some none)
theorem nas_mk {K : PySem.W.Frag} {C : Addr} {fs : List Str} {f : Str} (h : nasB K C fs = true) (hf : f ∈ fs) : NoAttr K C f := show PySem.W.findIn K (.ref C) f = some none from of_decide_eq_true (List.all_eq_true.mp h f hf)
end DL
set_option maxHeartbeats 1000000
namespace DL
open PySem PySem.Calls PySem.W PySem.SeqAt PyProof.Rows
section
variable {prog : Program} {w : World} {A : Around} {E : Value → Shared → Prop} {s : Shared}
end
end DL
namespace DL
open PySem PySem.Spec L2
section
variable {X : Cx} {Wx : WX}
end
end DL
namespace DL
open PySem PySem.Spec PyProof.Rows L2
def Mk (m : Nat) : Prop := m = 7 ∨ m = 31 ∨ m = 127 ∨ m = 511 ∨ m = 2047
def metF (m : Nat) : Nat → Nat → Nat → Nat
  | 0, _, acc => acc
  | n + 1, x, acc => metF m n ((x * 5 + 1) % (m + 1)) (acc ||| 2 ^ x)
theorem lcgI_add (m : Nat) : ∀ (k a i : Nat), lcgI m i (a + k) = lcgI m (lcgI m i a) k
  | 0, a, i => rfl
  | k + 1, a, i => by
    show (lcgI m i (a + k) * 5 + 1) % (m + 1) = (lcgI m (lcgI m i a) k * 5 + 1) % (m + 1)
    rw [lcgI_add m k a i]
theorem metF_bit (m j : Nat) : ∀ (n x acc : Nat), (metF m n x acc).testBit j = true → acc.testBit j = true ∨ ∃ k, k < n ∧ lcgI m x k = j
  | 0, x, acc, h => .inl h
  | n + 1, x, acc, h => by
    rcases metF_bit m j n _ _ h with q | ⟨k, hk, e⟩
    · rw [Nat.testBit_or, Bool.or_eq_true] at q
      rcases q with q | q
      · exact .inl q
      · rw [Nat.testBit_two_pow] at q
        exact .inr ⟨0, Nat.succ_pos _, of_decide_eq_true q⟩
    · refine .inr ⟨k + 1, Nat.succ_lt_succ hk, ?_⟩
      rw [Nat.add_comm k 1, lcgI_add]
      exact e
def cycOk (m : Nat) : Bool := metF m (m + 1) 0 0 == 2 ^ (m + 1) - 1 && lcgI m 0 (m + 1) == 0
theorem cyc7 : cycOk 7 = true := by decide +kernel
theorem cyc31 : cycOk 31 = true := by decide +kernel
theorem cyc127 : cycOk 127 = true := by decide +kernel
theorem cyc511 : cycOk 511 = true := by decide +kernel
theorem cyc2047 : cycOk 2047 = true := by decide +kernel
theorem Mk.cyc {m : Nat} (h : Mk m) : cycOk m = true := by
  rcases h with rfl | rfl | rfl | rfl | rfl
  · exact cyc7
  · exact cyc31
  · exact cyc127
  · exact cyc511
  · exact cyc2047
theorem Mk.from0 {m j : Nat} (h : Mk m) (hj : j ≤ m) : ∃ k, k ≤ m ∧ lcgI m 0 k = j := by
  have c := h.cyc
  unfold cycOk at c
  rw [Bool.and_eq_true, beq_iff_eq, beq_iff_eq] at c
  have b : (metF m (m + 1) 0 0).testBit j = true := by
    rw [c.1, Nat.testBit_two_pow_sub_one]
    exact decide_eq_true (by omega)
  rcases metF_bit m j _ _ _ b with q | ⟨k, hk, e⟩
  · simp at q
  · exact ⟨k, by omega, e⟩
theorem Mk.all {m i j : Nat} (h : Mk m) (hi : i ≤ m) (hj : j ≤ m) : ∃ k, k ≤ m ∧ lcgI m i k = j := by
  have c := h.cyc
  unfold cycOk at c
  rw [Bool.and_eq_true, beq_iff_eq, beq_iff_eq] at c
  obtain ⟨a, ha, ea⟩ := h.from0 hi
  obtain ⟨b, hb, eb⟩ := h.from0 hj
  rcases Nat.lt_or_ge b a with q | q
  · refine ⟨m + 1 - a + b, by omega, ?_⟩
    rw [← ea, ← lcgI_add, show a + (m + 1 - a + b) = (m + 1) + b by omega, lcgI_add, c.2, eb]
  · refine ⟨b - a, by omega, ?_⟩
    rw [← ea, ← lcgI_add, show a + (b - a) = b by omega, eb]
theorem Mk.run {m : Nat} (hm : Mk m) (h : Int) {j : Nat} (hj : j ≤ m) : ∃ n, n ≤ m + 12 ∧ runI m (SetTable.bits h) n = j := by
  obtain ⟨k, hk, e⟩ := hm.all (runI_le m (SetTable.bits h) 12) hj
  exact ⟨12 + k, by omega, (runI_tail (bits_lt h) k).trans e⟩
theorem Mk.meets {m : Nat} (hm : Mk m) (h : Int) {j : Nat} (hj : j ≤ m) : ∃ k, k < 10 * SetTable.turns m ∧ way m h k = j := by
  obtain ⟨n, hn, e⟩ := hm.run h hj
  obtain ⟨k, hk, e2⟩ := run_nth m (SetTable.bits h) n
  refine ⟨k, by unfold SetTable.turns; omega, ?_⟩
  show (nth m (runAt m (SetTable.bits h % (m + 1)) (SetTable.bits h)) k).j = j
  rw [e2]
  exact e
theorem wayLe (m : Nat) (h : Int) (k : Nat) : way m h k ≤ m := by
  have hi : SetTable.bits h % (m + 1) ≤ m := Nat.le_of_lt_succ (Nat.mod_lt _ (Nat.succ_pos _))
  have r := runEnd_bd hi
  have q := nth_in (m := m) k (runAt m (SetTable.bits h % (m + 1)) (SetTable.bits h)) (by
    show SetTable.bits h % (m + 1) + (SetTable.runEnd m (SetTable.bits h % (m + 1)) - SetTable.bits h % (m + 1)) ≤ m
    omega)
  have : way m h k = (nth m (runAt m (SetTable.bits h % (m + 1)) (SetTable.bits h)) k).j := rfl
  omega
structure Tb (t : SetTable) (hs : List Int) : Prop where
  ris : Ris t.place.toList
  dm : t.dummies = #[]
  sz : t.place.toList.length = hs.length
  mok : Mk t.mask
  bd : ∀ x ∈ t.place.toList, x ≤ t.mask
  reach : ∀ (i : Nat) (h : Int) (j : Nat), hs[i]? = some h → t.place.toList[i]? = some j → ∃ k, way t.mask h k = j ∧ ∀ k', k' < k → way t.mask h k' ∈ t.place.toList
theorem Tb.first {t : SetTable} {hs : List Int} (T : Tb t hs) (hl : hs.length ≤ t.mask) (h : Int) : ∃ K, K < 10 * SetTable.turns t.mask ∧ way t.mask h K ∉ t.place.toList ∧ ∀ k, k < K → way t.mask h k ∈ t.place.toList := by
  obtain ⟨j, hj, hn⟩ := st_missing t.place.toList (t.mask + 1) (by rw [T.sz]; omega)
  obtain ⟨k, hk, e⟩ := T.mok.meets h (Nat.le_of_lt_succ hj)
  obtain ⟨K, h1, h2, h3⟩ := st_least (p := fun k => way t.mask h k ∉ t.place.toList) k (by rw [e]; exact hn)
  exact ⟨K, by omega, h2, fun k' hk' => Classical.not_not.mp (h3 k' hk')⟩
theorem Tb.put {t : SetTable} {hs : List Int} (T : Tb t hs) {h : Int} {K j p : Nat} (ej : way t.mask h K = j) (ep : SetTable.below t.place j = p) (hK : j ∉ t.place.toList) (hb : ∀ k, k < K → way t.mask h k ∈ t.place.toList) :
    p ≤ hs.length ∧ Tb (t.put j).1 (hs.take p ++ h :: hs.drop p) ∧ (t.put j).1.fill = hs.length + 1 := by
  have hjm : j ≤ t.mask := ej ▸ wayLe _ _ _
  obtain ⟨c1, _, _⟩ := below_cut T.ris j
  rw [ep, ← Array.length_toList] at c1
  have hph : p ≤ hs.length := by rw [← T.sz]; exact c1
  have hnp : t.place[SetTable.below t.place j]? ≠ some j := fun e => hK (List.mem_of_getElem? (by rw [Array.getElem?_toList]; exact e))
  have hpp := put_place t j
  rw [ep] at hpp
  have hln : (t.put j).1.place.toList.length = hs.length + 1 := by rw [hpp, len_ins _ c1, T.sz]
  refine ⟨hph, ⟨ris_insert T.ris hnp, put_dm T.dm j, by rw [hln, len_ins _ hph], T.mok, fun x hx => ?_, fun i h' j' h1 h2 => ?_⟩, ?_⟩
  · rw [hpp] at hx
    rcases mem_ins.1 hx with z | z
    · rw [z]; exact hjm
    · exact T.bd x z
  · have old : ∀ i0 : Nat, hs[i0]? = some h' → t.place.toList[i0]? = some j' → ∃ k, way t.mask h' k = j' ∧ ∀ k', k' < k → way t.mask h' k' ∈ (t.put j).1.place.toList := fun i0 a b => by
      obtain ⟨k, e, z⟩ := T.reach i0 h' j' a b
      exact ⟨k, e, fun k' hk' => by rw [hpp]; exact mem_ins.2 (.inr (z k' hk'))⟩
    rw [tins_get hs hph] at h1
    rw [hpp, tins_get _ c1] at h2
    show ∃ k, way t.mask h' k = j' ∧ ∀ k', k' < k → way t.mask h' k' ∈ (t.put j).1.place.toList
    by_cases q1 : i < p
    · rw [if_pos q1] at h1 h2
      exact old i h1 h2
    · rw [if_neg q1] at h1 h2
      by_cases q2 : i = p
      · rw [if_pos q2] at h1 h2
        cases h1
        cases h2
        exact ⟨K, ej, fun k' hk' => by rw [hpp]; exact mem_ins.2 (.inr (hb k' hk'))⟩
      · rw [if_neg q2] at h1 h2
        exact old _ h1 h2
  · show (t.put j).1.place.size + (t.put j).1.dummies.size = hs.length + 1
    rw [put_dm T.dm j, ← Array.length_toList, hln]
    rfl
theorem Mk.free {m : Nat} (hm : Mk m) (owner : Array (Option Nat)) (h : Int) {j : Nat} (hj : j ≤ m) (hf : oAt owner j = none) :
    ∃ K, SetTable.layClean.free m owner (SetTable.turns m) (SetTable.bits h % (m + 1)) (SetTable.bits h) = some (way m h K) ∧ oAt owner (way m h K) = none ∧ ∀ k, k < K → oAt owner (way m h k) ≠ none := by
  obtain ⟨n, hn, e⟩ := hm.run h hj
  have hw : way m h (off m (SetTable.bits h % (m + 1)) (SetTable.bits h) n) = j := by
    show (nth m (runAt m (SetTable.bits h % (m + 1)) (SetTable.bits h)) _).j = j
    rw [nth_off, itL_run]
    exact e
  obtain ⟨K, k1, k2, k3⟩ := st_least (p := fun k => oAt owner (way m h k) = none) _ (by rw [hw]; exact hf)
  refine ⟨K, free_spec m owner (SetTable.turns m) n _ _ K (by unfold SetTable.turns; omega) k1 (fun k hk => ?_) ?_, k2, k3⟩
  · cases z : oAt owner (nth m (runAt m (SetTable.bits h % (m + 1)) (SetTable.bits h)) k).j with
    | none => exact absurd z (k3 k hk)
    | some _ => rfl
  · exact Option.isNone_iff_eq_none.mpr k2
end DL
set_option maxHeartbeats 4000000
namespace DL
open PySem PySem.Spec PyProof.Rows L2
abbrev NI (h : Heap) (k : NestedKey) (a : Addr) : Prop := NestedIs h k (.ref a) ∧ k.depth ≤ 8
theorem NI.keep {h h' : Heap} {k : NestedKey} {a : Addr} (x : NI h k a) (hk : ∀ b o, h.get? b = some o → h'.get? b = some o) : NI h' k a := ⟨NestedIs.at (fun b o _ _ e _ => hk b o e) _ _ x.1, x.2⟩
theorem NI.same {h h' : Heap} {k : NestedKey} {a b : Addr} {o : Obj} {es : Array (Int × Value)} {ep : Nat} {t : SetTable} (x : NI h k b) (ho : h.get? a = some o) (hd : o.data = .set es ep t) (hs : Heap.SameBut a h h') : NI h' k b :=
  ⟨NestedIs.at (fun c oc vs n hc hv => (hs.2 c fun e => by
    subst e
    rw [ho] at hc
    cases hc
    rw [hd] at hv
    cases hv).trans hc) _ _ x.1, x.2⟩
section
variable {P : Program} {w : World}
def Bare (P : Program) (w : World) (n : Nat) (s : Shared) (v : Value) : Prop := ∀ (A : Around) (E : Value → Shared → Prop) (Q : Bool → Shared → Prop), Q false s → wpAny (model P w) A (ofAClassStatement n v) Q E s
theorem Bare.val {n : Nat} {s : Shared} {v : Value} (e : ofAClassStatement n v = pure false) : Bare P w n s v := fun A E Q h => by rw [e]; exact wpAny_pure h
theorem Bare.tup {n : Nat} {s : Shared} {a : Addr} {o : Obj} {vs : Array Value} {m : Nat} (ho : s.heap.get? a = some o) (hc : o.cls = .type "tuple") (hd : o.data = .seq vs m) (hq : ∀ v ∈ vs.toList, Bare P w n s v) : Bare P w (n + 1) s (.ref a) := fun A E Q h => by
  have hT : s.TypeIs (.ref a) "tuple" := ⟨o, ho, hc⟩
  unfold ofAClassStatement
  refine wpAny_bind (wpAny_typeOf hT ?_)
  dsimp only
  have e : (("tuple" : String) == "tuple") = true := by decide
  simp only [e, if_true, Bool.not_true, Bool.false_eq_true, if_false]
  try refine wpAny_bind (wpAny_pure ?_)
  try simp only [Bool.not_true, Bool.false_eq_true, if_false]
  show wpAny _ _ (seqItems? (.ref a) >>= _) _ _ s
  refine wpAny_bind (wpAny_seqItems ho hd ?_)
  dsimp only
  refine wpAny_bind ?_
  show wpAny _ _ (forIn vs _ _) _ _ s
  rw [← Array.forIn_toList]
  refine wpAny_forIn_list _ (fun rest r s' => r.1 = none ∧ s' = s ∧ ∀ v ∈ rest, Bare P w n s v) _ ?_ ?_ _ _ ⟨rfl, rfl, hq⟩
  · rintro v rest r s' ⟨hr, rfl, hall⟩
    refine wpAny_bind (hall v List.mem_cons_self _ _ _ ?_)
    simp only [Bool.false_eq_true, if_false]
    exact wpAny_pure ⟨rfl, rfl, fun u hu' => hall u (List.mem_cons_of_mem _ hu')⟩
  · rintro ⟨r1, r2⟩ s' ⟨hr, rfl, _⟩
    simp only at hr
    subst hr
    exact wpAny_pure h
mutual
theorem bare_key : ∀ (k : NestedKey) (v : Value) (n : Nat) (s : Shared), NestedIs s.heap k v → k.depth ≤ n → Bare P w n s v
  | .none, _, n, s, x, _ => by cases x; exact .val (by cases n <;> rfl)
  | .num i, _, n, s, x, _ => by cases x <;> exact .val (by cases n <;> rfl)
  | .text y, _, n, s, x, _ => by cases x; exact .val (by cases n <;> rfl)
  | .tup ks, _, n, s, x, hn => by
    cases x with
    | tup hg hc hd hk =>
      simp only [NestedKey.depth] at hn
      cases n with
      | zero => omega
      | succ n => exact .tup hg hc hd (bare_keys ks _ n s hk (by omega))
theorem bare_keys : ∀ (ks : List NestedKey) (vs : List Value) (n : Nat) (s : Shared), NestedAll s.heap ks vs → NestedKey.depthAll ks ≤ n → ∀ v ∈ vs, Bare P w n s v
  | [], _, n, s, x, _, v, hv => by cases x; cases hv
  | k :: ks, _, n, s, x, hn, v, hv => by
    cases x with
    | cons x1 x2 =>
      simp only [NestedKey.depthAll] at hn
      rcases List.mem_cons.mp hv with e | hv
      · rw [e]; exact bare_key k _ n s x1 (by omega)
      · exact bare_keys ks _ n s x2 (by omega) v hv
end
def HbT (P : Program) (w : World) (n : Nat) (s : Shared) (v : Value) : Prop := ∀ (A : Around) (E : Value → Shared → Prop) (Q : Bool → Shared → Prop), (∀ b, Q b s) → wpAny (model P w) A (hashByValue n v) Q E s
theorem HbT.val {n : Nat} {s : Shared} {v : Value} {b : Bool} (e : hashByValue n v = pure b) : HbT P w n s v := fun A E Q h => by rw [e]; exact wpAny_pure (h b)
theorem HbT.tup {n : Nat} {s : Shared} {a : Addr} {o : Obj} {vs : Array Value} {m : Nat} (ho : s.heap.get? a = some o) (hc : o.cls = .type "tuple") (hd : o.data = .seq vs m) (hq : ∀ v ∈ vs.toList, HbT P w n s v) : HbT P w (n + 1) s (.ref a) := fun A E Q h => by
  have hT : s.TypeIs (.ref a) "tuple" := ⟨o, ho, hc⟩
  unfold hashByValue
  refine wpAny_bind (wpAny_specialOf hT F.slot_tuple_hash.lookup ?_)
  show wpAny _ _ (seqItems? (.ref a) >>= _) _ _ s
  refine wpAny_bind (wpAny_seqItems ho hd ?_)
  refine wpAny_bind ?_
  show wpAny _ _ (forIn vs _ _) _ _ s
  rw [← Array.forIn_toList]
  refine wpAny_forIn_list _ (fun rest r s' => r.1 = none ∧ s' = s ∧ ∀ v ∈ rest, HbT P w n s v) _ ?_ ?_ _ _ ⟨rfl, rfl, hq⟩
  · rintro v rest r s' ⟨hr, rfl, hall⟩
    refine wpAny_bind (hall v List.mem_cons_self _ _ _ fun b => ?_)
    cases b with
    | true =>
      simp only [Bool.not_true, Bool.false_eq_true, if_false]
      exact wpAny_pure ⟨rfl, rfl, fun u hu' => hall u (List.mem_cons_of_mem _ hu')⟩
    | false =>
      simp only [Bool.not_false, if_true]
      exact wpAny_pure (wpAny_pure (h false))
  · rintro ⟨r1, r2⟩ s' ⟨hr, rfl, _⟩
    simp only at hr
    subst hr
    exact wpAny_pure (h true)
mutual
theorem hb_key : ∀ (k : NestedKey) (v : Value) (n : Nat) (s : Shared), NestedIs s.heap k v → HbT P w n s v
  | .none, _, n, s, x => by cases x; exact .val (b := true) (by cases n <;> rfl)
  | .num i, _, n, s, x => by cases x <;> exact .val (b := true) (by cases n <;> rfl)
  | .text y, _, n, s, x => by cases x; exact .val (b := false) (by cases n <;> rfl)
  | .tup ks, _, n, s, x => by
    cases x with
    | tup hg hc hd hk =>
      cases n with
      | zero => exact .val (b := false) rfl
      | succ n => exact .tup hg hc hd (hb_keys ks _ n s hk)
theorem hb_keys : ∀ (ks : List NestedKey) (vs : List Value) (n : Nat) (s : Shared), NestedAll s.heap ks vs → ∀ v ∈ vs, HbT P w n s v
  | [], _, n, s, x, v, hv => by cases x; cases hv
  | k :: ks, _, n, s, x, v, hv => by
    cases x with
    | cons x1 x2 =>
      rcases List.mem_cons.mp hv with e | hv
      · rw [e]; exact hb_key k _ n s x1
      · exact hb_keys ks _ n s x2 v hv
end
end
section
variable {P : Program} {w : World} {A : Around} {E : Value → Shared → Prop} {s : Shared}
abbrev rowsN (w : World) (L : List (Addr × NestedKey)) : List (Int × Value) := L.map fun p => (p.2.hash w, Value.ref p.1)
structure SN (w : World) (h : Heap) (a : Addr) (L : List (Addr × NestedKey)) (es : Array (Int × Value)) (ep : Nat) (t : SetTable) : Prop where
  ob : ∃ o, h.get? a = some o ∧ o.ExactSet ∧ o.data = .set es ep t
  rows : es.toList = rowsN w L
  tab : Tb t (L.map fun p => p.2.hash w)
  nd : (L.map (·.2)).Nodup
  key : ∀ p ∈ L, NI h p.2 p.1
  led : w.params.followText "set-order" = true ∨ t.led = true
  room : L.length * 5 < t.mask * 3
  few : L.length ≤ 1000
variable {a : Addr} {L : List (Addr × NestedKey)} {es : Array (Int × Value)} {ep : Nat} {t : SetTable}
theorem rows_size {L : List (Addr × NestedKey)} {es : Array (Int × Value)} (r : es.toList = rowsN w L) : es.size = L.length := by
  have h := congrArg List.length r
  simpa using h
theorem tb_fits {hs : List Int} {n : Nat} (T : Tb t hs) (hn : n = hs.length) (hm : hs.length ≤ t.mask) : t.fits n = true := by
  unfold SetTable.fits SetTable.fill
  have h1 := T.sz
  rw [Array.length_toList] at h1
  rw [T.dm, Bool.and_eq_true, beq_iff_eq, decide_eq_true_eq]
  show t.place.size = n ∧ t.place.size + 0 ≤ t.mask
  omega
theorem SN.fits (R : SN w s.heap a L es ep t) : t.fits es.size = true :=
  tb_fits R.tab (by rw [rows_size R.rows, List.length_map]) (by rw [List.length_map]; have := R.room; omega)
theorem SN.entry (R : SN w s.heap a L es ep t) {i : Nat} {p : Addr × NestedKey} (h : L[i]? = some p) : es[i]? = some (p.2.hash w, Value.ref p.1) := by
  rw [← Array.getElem?_toList, R.rows, List.getElem?_map, h]
  rfl
end
end DL
set_option maxHeartbeats 4000000
namespace DL
open PySem PySem.Spec PyProof.Rows L2
section
variable {P : Program} {w : World} {A : Around} {E : Value → Shared → Prop} {s : Shared}
variable {a : Addr} {L : List (Addr × NestedKey)} {es : Array (Int × Value)} {ep : Nat} {t : SetTable}
end
end DL
set_option maxHeartbeats 4000000
namespace DL
open PySem PySem.Spec PyProof.Rows L2
structure Gt (ks : List (Addr × NestedKey)) (i : Nat) (L : List (Addr × NestedKey)) : Prop where
  sub : ∀ p ∈ L, p ∈ ks.take i
  all : ∀ p ∈ ks.take i, p.2 ∈ L.map (·.2)
  len : L.length ≤ i
theorem Gt.step {ks L L' : List (Addr × NestedKey)} {i : Nat} {x : Addr × NestedKey} (g : Gt ks i L) (h : ks[i]? = some x) (c1 : x.2 ∈ L.map (·.2) → L' = L) (c2 : x.2 ∉ L.map (·.2) → L'.Perm (x :: L)) : Gt ks (i + 1) L' := by
  have e : ks.take (i + 1) = ks.take i ++ [x] := by rw [List.take_succ, h]; rfl
  by_cases hm : x.2 ∈ L.map (·.2)
  · rw [c1 hm]
    refine ⟨fun p hp => by rw [e]; exact List.mem_append_left _ (g.sub p hp), fun p hp => ?_, Nat.le_succ_of_le g.len⟩
    rw [e] at hp
    rcases List.mem_append.mp hp with z | z
    · exact g.all p z
    · rw [List.mem_singleton.mp z]; exact hm
  · have pm := c2 hm
    refine ⟨fun p hp => ?_, fun p hp => ?_, by rw [pm.length_eq]; exact Nat.succ_le_succ g.len⟩
    · rw [e]
      rcases List.mem_cons.mp (pm.mem_iff.mp hp) with z | z
      · rw [z]; exact List.mem_append_right _ (List.mem_singleton.mpr rfl)
      · exact List.mem_append_left _ (g.sub p z)
    · rw [(pm.map (·.2)).mem_iff, List.map_cons]
      rw [e] at hp
      rcases List.mem_append.mp hp with z | z
      · exact List.mem_cons_of_mem _ (g.all p z)
      · rw [List.mem_singleton.mp z]; exact List.mem_cons_self
section
variable {P : Program} {w : World} {A : Around} {E : Value → Shared → Prop} {s : Shared}
theorem SN.keep {h h' : Heap} {a : Addr} {L : List (Addr × NestedKey)} {es : Array (Int × Value)} {ep : Nat} {t : SetTable} (R : SN w h a L es ep t) (ha : ∀ o, h.get? a = some o → h'.get? a = some o) (hk : ∀ p ∈ L, NI h' p.2 p.1) : SN w h' a L es ep t := by
  obtain ⟨o, ho, r⟩ := R.ob
  exact ⟨⟨o, ha o ho, r⟩, R.rows, R.tab, R.nd, hk, R.led, R.room, R.few⟩
end
end DL
set_option maxHeartbeats 4000000
namespace DL
open PySem PySem.Spec PyProof.Rows L2
mutual
def keyD : PyData → Option NestedKey
  | .none => some .none
  | .bool b => some (.num (if b = true then 1 else 0))
  | .int i => some (.num i)
  | .str x => some (.text x)
  | .tuple xs => (keyDs xs).map .tup
  | .list _ => none
  | .dict _ => none
def keyDs : List PyData → Option (List NestedKey)
  | [] => some []
  | d :: ds => match keyD d, keyDs ds with
    | some k, some ks => some (k :: ks)
    | _, _ => none
end
mutual
theorem reads_key {h : Heap} : ∀ (d : PyData) {v : Value} {as : List Addr} {k : NestedKey}, Reads h v d as → keyD d = some k → NestedIs h k v
  | .none, _, _, _, r, e => by unfold keyD at e; cases e; cases r; exact .none
  | .bool b, _, _, _, r, e => by unfold keyD at e; cases e; cases r; exact .bool rfl
  | .int i, _, _, _, r, e => by unfold keyD at e; cases e; cases r; exact .int _ _
  | .str x, _, _, _, r, e => by unfold keyD at e; cases e; cases r; exact .text _ _
  | .tuple xs, _, _, _, r, e => by
    unfold keyD at e
    cases q : keyDs xs with
    | none => rw [q] at e; cases e
    | some ks =>
      rw [q] at e
      cases e
      cases r with
      | tuple h1 h2 h3 h4 => exact .tup h1 h2 h3 (reads_keys xs h4 q)
  | .list _, _, _, _, _, e => by unfold keyD at e; cases e
  | .dict _, _, _, _, _, e => by unfold keyD at e; cases e
theorem reads_keys {h : Heap} : ∀ (ds : List PyData) {vs : List Value} {as : List Addr} {ks : List NestedKey}, ReadsAll h vs ds as → keyDs ds = some ks → NestedAll h ks vs
  | [], _, _, _, r, e => by unfold keyDs at e; cases e; cases r; exact .nil
  | d :: ds, _, _, _, r, e => by
    unfold keyDs at e
    split at e
    · rename_i k ks e1 e2
      cases e
      cases r with
      | cons r1 r2 => exact .cons (reads_key d r1 e1) (reads_keys ds r2 e2)
    · cases e
end
structure SN0 (w : World) (h : Heap) (a : Addr) (L : List (Addr × NestedKey)) : Prop where
  ex : ∃ (es : Array (Int × Value)) (ep : Nat) (t : SetTable), (∃ o, h.get? a = some o ∧ o.ExactSet ∧ o.data = .set es ep t) ∧ es.toList = rowsN w L ∧ Tb t (L.map fun p => p.2.hash w) ∧ (L.map (·.2)).Nodup ∧
    (w.params.followText "set-order" = true ∨ t.led = true) ∧ L.length * 5 < t.mask * 3 ∧ L.length ≤ 1000
theorem SN.s0 {w : World} {h : Heap} {a : Addr} {L : List (Addr × NestedKey)} {es : Array (Int × Value)} {ep : Nat} {t : SetTable} (R : SN w h a L es ep t) : SN0 w h a L := ⟨es, ep, t, R.ob, R.rows, R.tab, R.nd, R.led, R.room, R.few⟩
theorem SN0.keep {w : World} {h h' : Heap} {a : Addr} {L : List (Addr × NestedKey)} (R : SN0 w h a L) (k : ∀ o, h.get? a = some o → h'.get? a = some o) : SN0 w h' a L := by
  obtain ⟨es, ep, t, ⟨o, ho, r⟩, q⟩ := R.ex
  exact ⟨es, ep, t, ⟨o, k o ho, r⟩, q⟩
section
variable {X : Cx}
end
end DL
set_option maxHeartbeats 1000000
namespace DL
open PySem PySem.Spec L2
mutual
theorem eqv_eq : ∀ (x y : PyData) {k : NestedKey}, PySem.W.alike x y = true → PyData.eqv x y = true → keyD x = some k → x = y
  | .none, y, _, h, _, _ => by cases y <;> first | rfl | (simp [PySem.W.alike] at h)
  | .bool a, y, _, h, e, _ => by cases y <;> first | (simp [PySem.W.alike] at h; done) | (simp [PyData.eqv] at e; rw [e])
  | .int a, y, _, h, e, _ => by cases y <;> first | (simp [PySem.W.alike] at h; done) | (simp [PyData.eqv] at e; rw [e])
  | .str a, y, _, h, e, _ => by cases y <;> first | (simp [PySem.W.alike] at h; done) | (simp [PyData.eqv] at e; rw [e])
  | .tuple xs, y, k, h, e, q => by
    cases y with
    | tuple ys =>
      unfold keyD at q
      cases q2 : keyDs xs with
      | none => rw [q2] at q; cases q
      | some ks => rw [eqv_eqs xs ys (by simpa [PySem.W.alike] using h) (by simpa [PyData.eqv] using e) q2]
    | _ => simp [PySem.W.alike] at h
  | .list _, _, _, _, _, q => by unfold keyD at q; cases q
  | .dict _, _, _, _, _, q => by unfold keyD at q; cases q
theorem eqv_eqs : ∀ (xs ys : List PyData) {ks : List NestedKey}, PySem.W.alikeAll xs ys = true → PyData.eqvAll xs ys = true → keyDs xs = some ks → xs = ys
  | [], [], _, _, _, _ => rfl
  | [], _ :: _, _, _, e, _ => by simp [PyData.eqvAll] at e
  | _ :: _, [], _, _, e, _ => by simp [PyData.eqvAll] at e
  | x :: xs, y :: ys, _, h, e, q => by
    rw [PySem.W.eqv_all_cons, Bool.and_eq_true] at e
    unfold keyDs at q
    split at q
    · rename_i k ks q1 q2
      rw [eqv_eq x y (PySem.W.alike_all_cons h).1 e.1 q1, eqv_eqs xs ys (PySem.W.alike_all_cons h).2 e.2 q2]
    · cases q
end
mutual
theorem toD_inj : ∀ (u u' : U) {d : PyData} {k : NestedKey}, toD u = some d → toD u' = some d → keyD d = some k → u = u'
  | .non, u', d, _, h1, h2, _ => by
    unfold toD at h1; cases h1
    cases u' <;> (unfold toD at h2) <;> first | rfl | (cases h2) | (simp at h2)
  | .bl b, u', d, _, h1, h2, _ => by
    unfold toD at h1; cases h1
    cases u' <;> (unfold toD at h2) <;> first | (cases h2; rfl) | (cases h2) | (simp at h2)
  | .int b, u', d, _, h1, h2, _ => by
    unfold toD at h1; cases h1
    cases u' <;> (unfold toD at h2) <;> first | (cases h2; rfl) | (cases h2) | (simp at h2)
  | .str b, u', d, _, h1, h2, _ => by
    unfold toD at h1; cases h1
    cases u' <;> (unfold toD at h2) <;> first | (cases h2; rfl) | (cases h2) | (simp at h2)
  | .tup us, u', d, k, h1, h2, q => by
    unfold toD at h1
    obtain ⟨ds, e1, rfl⟩ := Option.map_eq_some_iff.mp h1
    cases u' with
    | tup us' =>
      unfold toD at h2
      obtain ⟨ds', e2, e3⟩ := Option.map_eq_some_iff.mp h2
      cases e3
      unfold keyD at q
      obtain ⟨ks, q1, _⟩ := Option.map_eq_some_iff.mp q
      rw [toDs_inj us us' e1 e2 q1]
    | lst us' => unfold toD at h2; obtain ⟨ds', e2, e3⟩ := Option.map_eq_some_iff.mp h2; cases e3
    | frz us' => unfold toD at h2; obtain ⟨ds', e2, e3⟩ := Option.map_eq_some_iff.mp h2; cases e3
    | _ => unfold toD at h2; cases h2
  | .lst us, u', d, k, h1, h2, q => by
    unfold toD at h1
    obtain ⟨ds, e1, rfl⟩ := Option.map_eq_some_iff.mp h1
    unfold keyD at q; cases q
  | .frz us, u', d, k, h1, h2, q => by
    unfold toD at h1
    obtain ⟨ds, e1, rfl⟩ := Option.map_eq_some_iff.mp h1
    unfold keyD at q; cases q
  | .dic _ _, _, _, _, h1, _, _ => by unfold toD at h1; cases h1
  | .loc _, _, _, _, h1, _, _ => by unfold toD at h1; cases h1
  | .ty _, _, _, _, h1, _, _ => by unfold toD at h1; cases h1
  | .exc _ _ _, _, _, _, h1, _, _ => by unfold toD at h1; cases h1
  | .cl _, _, _, _, h1, _, _ => by unfold toD at h1; cases h1
theorem toDs_inj : ∀ (us us' : List U) {ds : List PyData} {ks : List NestedKey}, toDs us = some ds → toDs us' = some ds → keyDs ds = some ks → us = us'
  | [], us', ds, _, h1, h2, _ => by
    unfold toDs at h1; cases h1
    cases us' with
    | nil => rfl
    | cons u us => unfold toDs at h2; split at h2 <;> cases h2
  | u :: us, us', ds, ks, h1, h2, q => by
    unfold toDs at h1
    split at h1
    · rename_i d ds1 e1 e2
      cases h1
      cases us' with
      | nil => unfold toDs at h2; cases h2
      | cons u' us' =>
        unfold toDs at h2
        split at h2
        · rename_i d' ds' f1 f2
          cases h2
          unfold keyDs at q
          split at q
          · rename_i k ks q1 q2
            rw [toD_inj u u' e1 f1 q1, toDs_inj us us' e2 f2 q2]
          · cases q
        · cases h2
    · cases h1
end
mutual
theorem key_data : ∀ (x y : PyData) {k : NestedKey}, PySem.W.alike x y = true → keyD x = some k → keyD y = some k → x = y
  | .none, y, _, h, _, _ => by cases y <;> first | rfl | (simp [PySem.W.alike] at h)
  | .bool a, y, _, h, e, q => by
    cases y <;> first | (simp [PySem.W.alike] at h; done) | skip
    rename_i b
    unfold keyD at e q
    cases e
    cases a <;> cases b <;> first | rfl | (simp at q)
  | .int a, y, _, h, e, q => by
    cases y <;> first | (simp [PySem.W.alike] at h; done) | skip
    unfold keyD at e q
    cases e
    cases q
    rfl
  | .str a, y, _, h, e, q => by
    cases y <;> first | (simp [PySem.W.alike] at h; done) | skip
    unfold keyD at e q
    cases e
    cases q
    rfl
  | .tuple xs, y, k, h, e, q => by
    cases y with
    | tuple ys =>
      unfold keyD at e q
      obtain ⟨ks, e1, rfl⟩ := Option.map_eq_some_iff.mp e
      obtain ⟨ks', e2, e3⟩ := Option.map_eq_some_iff.mp q
      cases e3
      rw [keys_data xs ys (by simpa [PySem.W.alike] using h) e1 e2]
    | _ => simp [PySem.W.alike] at h
  | .list _, _, _, _, e, _ => by unfold keyD at e; cases e
  | .dict _, _, _, _, e, _ => by unfold keyD at e; cases e
theorem keys_data : ∀ (xs ys : List PyData) {ks : List NestedKey}, PySem.W.alikeAll xs ys = true → keyDs xs = some ks → keyDs ys = some ks → xs = ys
  | [], [], _, _, _, _ => rfl
  | [], y :: ys, _, _, e, q => by
    unfold keyDs at e q
    cases e
    split at q <;> cases q
  | x :: xs, [], _, _, e, q => by
    unfold keyDs at e q
    cases q
    split at e <;> cases e
  | x :: xs, y :: ys, _, h, e, q => by
    unfold keyDs at e q
    split at e
    · rename_i k ks q1 q2
      cases e
      split at q
      · rename_i k' ks' p1 p2
        cases q
        rw [key_data x y (PySem.W.alike_all_cons h).1 q1 p1, keys_data xs ys (PySem.W.alike_all_cons h).2 q2 p2]
      · cases q
    · cases e
end
end DL
set_option maxHeartbeats 1000000
namespace DL
open PySem PySem.Spec L2
def alt {α : Type} (a b : R α) : R α := match a with
  | .bad => b
  | .ok x S => .ok x S
  | .exc x S => .exc x S
theorem pst_alt {α : Type} {a b : R α} {P : α → Sto → Prop} {E : Exc → Sto → Prop} (h : Pst (alt a b) P E) : Pst a P E ∨ Pst b P E := by
  cases a with
  | bad => exact .inr h
  | ok x S => exact .inl h
  | exc x S => exact .inl h
section
variable {X : Cx} {Wx : WX}
theorem CallSimL.alt {f : Value} {g1 g2 : List U → Sto → R (List U)} (h1 : CallSimL X f g1) (h2 : CallSimL X f g2) : CallSimL X f (fun us S => DL.alt (g1 us S) (g2 us S)) := by
  obtain ⟨r1, c1, k1⟩ := h1
  obtain ⟨r2, c2, k2⟩ := h2
  refine ⟨_, c1.or c2, fun w us vs Q E s rs h => ?_⟩
  rcases pst_alt h with q | q
  · exact .inl (k1 w us vs Q E s rs q)
  · exact .inr (k2 w us vs Q E s rs q)
end
end DL
set_option maxHeartbeats 1000000
namespace DL
open PySem PySem.Spec L2 PyProof.Rows HT
section
variable {X : Cx} {Wx : WX}
theorem noX_alt {a b : R U} (h1 : noX a) (h2 : noX b) : noX (alt a b) := by
  cases a with
  | bad => exact h2
  | ok x S => trivial
  | exc x S => exact h1
theorem CallSim.alt {f : Value} {g1 g2 : List U → Sto → R U} (h1 : CallSim X f g1) (h2 : CallSim X f g2) : CallSim X f (fun us S => DL.alt (g1 us S) (g2 us S)) := by
  obtain ⟨r1, c1, n1, k1⟩ := h1
  obtain ⟨r2, c2, n2, k2⟩ := h2
  refine ⟨_, c1.or c2, fun us S => noX_alt (n1 us S) (n2 us S), fun w us vs Q s rs h => ?_⟩
  rcases pst_alt h with q | q
  · exact .inl (k1 w us vs Q s rs q)
  · exact .inr (k2 w us vs Q s rs q)
theorem MtSim.alt {id : String} {g1 g2 : U → List U → Sto → R U} (h1 : MtSim X id g1) (h2 : MtSim X id g2) : MtSim X id (fun u us S => DL.alt (g1 u us S) (g2 u us S)) := by
  obtain ⟨r1, c1, n1, k1⟩ := h1
  obtain ⟨r2, c2, n2, k2⟩ := h2
  refine ⟨_, MtR.or c1 c2, fun u us S => noX_alt (n1 u us S) (n2 u us S), fun w u us v vs Q s r rs h => ?_⟩
  rcases pst_alt h with q | q
  · exact .inl (k1 w u us v vs Q s r rs q)
  · exact .inr (k2 w u us v vs Q s r rs q)
theorem OpSim.alt {F : Value → Value → Sem Value} {g1 g2 : U → U → Sto → R U} (h1 : OpSim X F g1) (h2 : OpSim X F g2) : OpSim X F (fun x y S => DL.alt (g1 x y S) (g2 x y S)) := by
  obtain ⟨r1, c1, k1⟩ := h1
  obtain ⟨r2, c2, k2⟩ := h2
  refine ⟨_, c1.or c2, fun w x y v v' Q s rx ry h => ?_⟩
  rcases pst_alt h with q | q
  · exact .inl (k1 w x y v v' Q s rx ry q)
  · exact .inr (k2 w x y v v' Q s rx ry q)
def repT (x : Str) (n : Nat) : Str := ⟨(List.replicate n x.cps).foldl (· ++ ·) #[]⟩
def rMulS : R2 := fun x y H Q => ∃ (a : Str) (n : Nat), x = .str a ∧ y = .int n ∧ 1 ≤ n ∧ n ≤ 1000 ∧ a.length ≤ 1000 ∧ Q (.str (repT a n)) H
theorem repT_one (x : Str) : repT x 1 = x := by
  cases x
  unfold repT
  simp [List.replicate]
theorem fold_empty : ∀ (n : Nat) (acc : Array Nat), (List.replicate n (#[] : Array Nat)).foldl (· ++ ·) acc = acc
  | 0, _ => rfl
  | n + 1, acc => by rw [List.replicate_succ, List.foldl_cons, Array.append_empty]; exact fold_empty n acc
theorem fold_size (c : Array Nat) : ∀ (n : Nat) (acc : Array Nat), ((List.replicate n c).foldl (· ++ ·) acc).size = acc.size + n * c.size
  | 0, acc => by simp
  | n + 1, acc => by
    rw [List.replicate_succ, List.foldl_cons, fold_size c n, Array.size_append, Nat.succ_mul]
    omega
theorem op_mulS : OpR X (binaryOp .Mult) rMulS := by
  intro pins s σ H x y v u Q I rx ry h
  obtain ⟨a, n, rfl, rfl, h1, h2, h3, q⟩ := h
  obtain ⟨t, rfl⟩ := rx
  obtain ⟨t', rfl⟩ := ry
  have hz : a.length * n ≤ 1000000 := Nat.le_trans (Nat.mul_le_mul h3 h2) (by decide)
  have fin : ∀ (t2 : Tok) (k : Nat) (z : Str), z = repT a n → EP X pins σ Q (.str z t2) { s with toks := k } := fun t2 k z e => by
    rw [e]
    exact ⟨.str (repT a n), H, I.tok _, ⟨_, rfl⟩, q⟩
  refine PySem.P.mul_str (by
      rw [decide_eq_false (by omega), decide_eq_false (by omega)]
      rfl) (fun _ _ => ?_) (fun _ _ => ?_) ?_
  · intro z
    have e : (1000000 : Int) ≤ (2 ^ 63 - 1 : Int) / n := by
      rw [Int.le_ediv_iff_mul_le (by omega)]
      omega
    omega
  · rw [Int.toNat_natCast]
    exact decide_eq_false (by rw [sizeLine_eq]; omega)
  · rw [if_neg (by omega)]
    split
    · rename_i c
      rw [Bool.or_eq_true, beq_iff_eq, beq_iff_eq] at c
      refine fin _ _ a ?_
      rcases c with c | c
      · have : n = 1 := by omega
        rw [this, repT_one]
      · obtain ⟨cps⟩ := a
        have : cps = #[] := Array.eq_empty_of_size_eq_zero c
        subst this
        unfold repT
        rw [fold_empty]
    · rw [Int.toNat_natCast]
      refine ⟨?_, fin _ _ _ rfl⟩
      show ((List.replicate n a.cps).foldl (· ++ ·) #[]).size ≤ sizeLine
      rw [fold_size, sizeLine_eq]
      have hz' : n * a.cps.size ≤ 1000000 := by rw [Nat.mul_comm]; exact hz
      simpa using (by omega : n * a.cps.size ≤ 16777216)
def mulSU (x y : U) (S : Sto) : R U := match x, y with
  | .str a, .int n => guard (decide (1 ≤ n) && decide (n ≤ 1000) && decide (a.length ≤ 1000)) (.ok (.str (repT a n.toNat)) S)
  | _, _ => .bad
theorem os_mulS : OpSim X (binaryOp .Mult) mulSU := by
  refine ⟨_, op_mulS, fun w x y v v' Q s rx ry h => ?_⟩
  unfold mulSU at h
  split at h
  · rename_i a n
    obtain ⟨hl, h⟩ := guard_post h
    rw [Bool.and_eq_true, Bool.and_eq_true, decide_eq_true_eq, decide_eq_true_eq, decide_eq_true_eq] at hl
    cases rx
    cases ry
    refine ⟨a, n.toNat, rfl, by rw [Int.toNat_of_nonneg (by omega)], by omega, by omega, hl.2, OkE.here h s (.str _)⟩
  · exact h.elim
def mulAU (x y : U) (S : Sto) : R U := alt (mulU x y S) (mulSU x y S)
theorem os_mulA : OpSim X (binaryOp .Mult) mulAU := os_mul.alt os_mulS
theorem noX_mulA (x y : U) (S : Sto) : noX (mulAU x y S) := noX_alt (noX_mul x y S) (by unfold mulSU; split <;> first | trivial | exact noX_guard trivial)
end
end DL
set_option maxHeartbeats 1000000
namespace DL
open PySem PySem.Spec L2 PyProof.Rows HT
section
variable {prog : Program} {w : World} {A : Around} {E : Value → Shared → Prop} {s : Shared}
end
section
variable {X : Cx} {Wx : WX}
end
end DL
set_option maxHeartbeats 1000000
namespace DL
open PySem PySem.Spec L2 PyProof.Rows
def kU : Key → U
  | .inl i => .int i
  | .inr x => .str x
def kD : Key → PyData
  | .inl i => .int i
  | .inr x => .str x
section
variable {X : Cx} {Wx : WX}
abbrev Ent := Key × V × PyData
def Ent.kv (e : Ent) : Key × V := (e.1, e.2.1)
def Ent.d (e : Ent) : PyData := .tuple [kD e.1, e.2.2]
mutual
theorem dp_up {K : PySem.W.Frag} {H H' : Hp} (up : ∀ b o, H b = some o → H' b = some o) : ∀ {v : V} {d : PyData}, Dp K H v d → Dp K H' v d
  | _, _, .non => .non
  | _, _, .bl b => .bl b
  | _, _, .int i => .int i
  | _, _, .str x => .str x
  | _, _, .lst h r => .lst (h.imp (fun z => z.imp (up _ _) fun ⟨o, y⟩ => ⟨o, up _ _ y⟩) id) (dps_up up r)
  | _, _, .tup h r => .tup (h.imp (fun z => z.imp (up _ _) fun ⟨o, y⟩ => ⟨o, up _ _ y⟩) id) (dps_up up r)
theorem dps_up {K : PySem.W.Frag} {H H' : Hp} (up : ∀ b o, H b = some o → H' b = some o) : ∀ {vs : List V} {ds : List PyData}, DpAll K H vs ds → DpAll K H' vs ds
  | _, _, .nil => .nil
  | _, _, .cons h r => .cons (dp_up up h) (dps_up up r)
end
end
end DL
set_option maxHeartbeats 1000000
namespace DL
open PySem PySem.Spec L2 PyProof.Rows
section
variable {X : Cx} {Wx : WX}
structure Row where
  k : Key
  u : U
  v : V
  d : PyData
def Row.e (r : Row) : Ent := (r.k, r.v, r.d)
def Row.it (r : Row) : U := .tup [kU r.k, r.u]
end
end DL
set_option maxHeartbeats 1000000
namespace DL
open PySem PySem.Spec L2
section
variable {X : Cx} {Wx : WX}
end
end DL
set_option maxHeartbeats 1000000
namespace ETU
open PySem
open PySem.Sem (wp)
open PySem.AutoSeq1 (wpAny_loadPart')
section
variable {prog : Program} {w : World} {A : Around} {E : Value → Shared → Prop} {s : Shared}
end
end ETU
namespace DL
open PySem PySem.Spec L2 PyProof.Rows
section
variable {X : Cx} {Wx : WX}
end
end DL
set_option maxHeartbeats 2000000
namespace DL
open PySem PySem.Spec PyProof.Rows L2
section
variable {P : Program} {w : World} {A : Around} {E : Value → Shared → Prop} {s : Shared}
end
end DL
set_option maxHeartbeats 1000000
namespace DL
open PySem PySem.Spec PyProof.Rows L2
section
variable {X : Cx} {Wx : WX}
end
end DL
set_option maxHeartbeats 1000000
namespace DL
open PySem PySem.Spec PyProof.Rows L2
section
variable {X : Cx} {Wx : WX}
theorem VRs.rep {K : KM} {w : Wd} {us : List U} {xs : List V} (h : VRs K w us xs) : ∀ k : Nat, VRs K w (List.replicate k us).flatten (List.replicate k xs).flatten
  | 0 => .nil
  | k + 1 => by
    rw [List.replicate_succ, List.replicate_succ, List.flatten_cons, List.flatten_cons]
    exact h.append (VRs.rep h k)
end
end DL
set_option maxHeartbeats 1000000
namespace DL
open PySem PySem.Spec PyProof.Rows L2
section
variable {X : Cx} {Wx : WX}
end
end DL
set_option maxHeartbeats 1000000
namespace DL
open PySem PySem.Spec PyProof.Rows L2
section
variable {X : Cx} {Wx : WX}
end
end DL
set_option maxHeartbeats 1000000
namespace DL
open PySem PySem.Spec PyProof.Rows L2
mutual
theorem keyN_D : ∀ {u : U} {k : NestedKey}, keyN u = some k → ∃ d, toD u = some d ∧ keyD d = some k
  | .non, _, h => ⟨.none, rfl, by unfold keyN at h; unfold keyD; exact h⟩
  | .bl b, _, h => ⟨.bool b, rfl, by unfold keyN at h; unfold keyD; exact h⟩
  | .int i, _, h => ⟨.int i, rfl, by unfold keyN at h; unfold keyD; exact h⟩
  | .str x, _, h => ⟨.str x, rfl, by unfold keyN at h; unfold keyD; exact h⟩
  | .tup us, k, h => by
    unfold keyN at h
    cases q : keyNs us with
    | none => rw [q] at h; cases h
    | some ks =>
      rw [q] at h
      cases h
      obtain ⟨ds, e1, e2⟩ := keyNs_D q
      exact ⟨.tuple ds, by unfold toD; rw [e1]; rfl, by unfold keyD; rw [e2]; rfl⟩
  | .lst _, _, h => by unfold keyN at h; cases h
  | .frz _, _, h => by unfold keyN at h; cases h
  | .dic _ _, _, h => by unfold keyN at h; cases h
  | .loc _, _, h => by unfold keyN at h; cases h
  | .ty _, _, h => by unfold keyN at h; cases h
  | .exc _ _ _, _, h => by unfold keyN at h; cases h
  | .cl _, _, h => by unfold keyN at h; cases h
theorem keyNs_D : ∀ {us : List U} {ks : List NestedKey}, keyNs us = some ks → ∃ ds, toDs us = some ds ∧ keyDs ds = some ks
  | [], _, h => ⟨[], rfl, by unfold keyNs at h; unfold keyDs; exact h⟩
  | u :: us, _, h => by
    unfold keyNs at h
    split at h
    · rename_i k ks e1 e2
      cases h
      obtain ⟨d, h1, h2⟩ := keyN_D e1
      obtain ⟨ds, h3, h4⟩ := keyNs_D e2
      exact ⟨d :: ds, by unfold toDs; rw [h1, h3], by unfold keyDs; rw [h2, h4]⟩
    · cases h
end
def KAt (X : Cx) (H : Hp) (a : Addr) (k : NestedKey) : Prop := ∃ d, Dp X.K H (V.ref a) d ∧ keyD d = some k ∧ k.depth ≤ 8
section
variable {X : Cx} {Wx : WX}
theorem KAt.ni {pins : List (Addr × Obj)} {σ : L2.St} {H : Hp} {s : Shared} {a : Addr} {k : NestedKey} (I : Inv X pins σ H s) (h : KAt X H a k) : NI s.heap k a := by
  obtain ⟨d, hd, hk, h8⟩ := h
  obtain ⟨as, r⟩ := Dp.reads I d (V.ref a) (.ref a) hd rfl
  exact ⟨reads_key d r hk, h8⟩
def KDict (X : Cx) (H : Hp) (a : Addr) (L : List (NestedKey × Addr × V)) : Prop := H a = some (KdO X.prog X.w a L) ∧ ∀ x ∈ L, KAt X H x.2.1 x.1
def valL (L : List (NestedKey × Addr × V)) (k : NestedKey) : Option V := (L.find? fun x => decide (x.1 = k)).map (·.2.2)
inductive LRel : List (NestedKey × Addr × V) → List (NestedKey × Addr × Value) → Prop
  | nil : LRel [] []
  | cons {k : NestedKey} {a : Addr} {v : V} {u : Value} {L xs} : RelV v u → LRel L xs → LRel ((k, a, v) :: L) ((k, a, u) :: xs)
theorem lrel_of : ∀ {L : List (NestedKey × Addr × V)} {xs : List (NestedKey × Addr × Value)}, L.map (fun x => (x.1, x.2.1)) = xs.map (fun x => (x.1, x.2.1)) → Vals (L.map (·.2.2)) (xs.map (·.2.2)) → LRel L xs
  | [], [], _, _ => .nil
  | [], _ :: _, h, _ => by cases h
  | _ :: _, [], h, _ => by cases h
  | (k, a, v) :: L, (k', a', u) :: xs, h, r => by
    rw [List.map_cons, List.map_cons] at h r
    obtain ⟨h1, h2⟩ := List.cons.inj h
    have e1 : k = k' := congrArg Prod.fst h1
    have e2 : a = a' := congrArg Prod.snd h1
    subst e1 e2
    cases r with
    | cons r1 r2 => exact .cons r1 (lrel_of h2 r2)
theorem LRel.length {L : List (NestedKey × Addr × V)} {xs : List (NestedKey × Addr × Value)} (h : LRel L xs) : L.length = xs.length := by
  induction h with
  | nil => rfl
  | cons _ _ ih => rw [List.length_cons, List.length_cons, ih]
theorem LRel.at {L : List (NestedKey × Addr × V)} {xs : List (NestedKey × Addr × Value)} (h : LRel L xs) (k : NestedKey) : (valL L k = none ∧ atKey xs k = none) ∨ ∃ v p, valL L k = some v ∧ atKey xs k = some p ∧ RelV v p.2 := by
  induction h with
  | nil => exact .inl ⟨rfl, rfl⟩
  | @cons k' a v u L xs r _ ih =>
    by_cases e : k' = k
    · exact .inr ⟨v, (a, u), by simp [valL, e], by simp [atKey, e], r⟩
    · rcases ih with ⟨h1, h2⟩ | ⟨v', p, h1, h2, h3⟩
      · exact .inl ⟨by simpa [valL, e] using h1, by simpa [atKey, e] using h2⟩
      · exact .inr ⟨v', p, by simpa [valL, e] using h1, by simpa [atKey, e] using h2, h3⟩
def putL (L : List (NestedKey × Addr × V)) (k : NestedKey) (a : Addr) (v : V) : List (NestedKey × Addr × V) :=
  if (valL L k).isSome then L.map (fun x => if x.1 = k then (x.1, x.2.1, v) else x) else L ++ [(k, a, v)]
theorem LRel.map_put {L : List (NestedKey × Addr × V)} {xs : List (NestedKey × Addr × Value)} {k : NestedKey} {v : V} {u : Value} (r : RelV v u) (h : LRel L xs) : LRel (L.map (fun x => if x.1 = k then (x.1, x.2.1, v) else x)) (xs.map (putAt k u)) := by
  induction h with
  | nil => exact .nil
  | @cons k' a v' u' L xs r' _ ih =>
    rw [List.map_cons, List.map_cons]
    unfold putAt
    by_cases e : k' = k
    · simp only [e, if_true]
      exact .cons r ih
    · simp only [e, if_false]
      exact .cons r' ih
theorem LRel.snoc {L : List (NestedKey × Addr × V)} {xs : List (NestedKey × Addr × Value)} {k : NestedKey} {a : Addr} {v : V} {u : Value} (r : RelV v u) (h : LRel L xs) : LRel (L ++ [(k, a, v)]) (xs ++ [(k, a, u)]) := by
  induction h with
  | nil => exact .cons r .nil
  | cons r' _ ih => exact .cons r' ih
theorem LRel.put {L : List (NestedKey × Addr × V)} {xs : List (NestedKey × Addr × Value)} {k : NestedKey} {a : Addr} {v : V} {u : Value} (r : RelV v u) (h : LRel L xs) : LRel (putL L k a v) (storedH xs k a u) := by
  unfold putL storedH
  rcases h.at k with ⟨h1, h2⟩ | ⟨v', p, h1, h2, _⟩
  · rw [h1, h2]; exact h.snoc r
  · rw [h1, h2]; exact h.map_put r
def dropL (L : List (NestedKey × Addr × V)) (k : NestedKey) : List (NestedKey × Addr × V) := L.filter fun x => decide (x.1 ≠ k)
theorem LRel.drop {L : List (NestedKey × Addr × V)} {xs : List (NestedKey × Addr × Value)} (k : NestedKey) (h : LRel L xs) : LRel (dropL L k) (withoutH xs k) := by
  unfold dropL withoutH
  induction h with
  | nil => exact .nil
  | @cons k' a v' u' L xs r' _ ih =>
    by_cases e : k' = k
    · simpa [List.filter_cons, e] using ih
    · simp only [List.filter_cons, e, ne_eq, not_false_eq_true, decide_true, if_true]
      exact .cons r' ih
theorem KDict.get {pins : List (Addr × Obj)} {σ : L2.St} {H : Hp} {s : Shared} {a : Addr} {L : List (NestedKey × Addr × V)} (I : Inv X pins σ H s) (h : KDict X H a L) :
    (a == sysModules) = false ∧ L.length ≤ sizeLine ∧ ∃ xs, s.heap.DictOfH (nestedKind X.prog X.w) a xs ∧ LRel L xs := by
  obtain ⟨⟨h1, h2, o, es, ep, xs, e1, e2, e3, e4, e5, e6, e7⟩, _⟩ := I.hok a _ h.1
  have r := lrel_of e6 e7
  refine ⟨h1, h2, xs, ⟨o, es, ep, e1, e2, e3, e4, fun x hx => ?_, e5⟩, r⟩
  have hm : (x.1, x.2.1) ∈ L.map (fun x => (x.1, x.2.1)) := by rw [e6]; exact List.mem_map.mpr ⟨x, hx, rfl⟩
  obtain ⟨y, hy, ey⟩ := List.mem_map.mp hm
  have k := KAt.ni I (h.2 y hy)
  have z1 : y.1 = x.1 := congrArg Prod.fst ey
  have z2 : y.2.1 = x.2.1 := congrArg Prod.snd ey
  rw [z1, z2] at k
  exact k
end
end DL
set_option maxHeartbeats 1000000
namespace DL
open PySem PySem.Spec PyProof.Rows L2
section
variable {X : Cx} {Wx : WX}
section
variable {name : Str} {id : String} {r : V → List V → Hp → VK → Prop} {o e : Expr} {es : List Expr} {to : TE} {t : TA} {apos cpos : Pos}
end
end
end DL
set_option maxHeartbeats 1000000
namespace DL
open PySem PySem.Spec PyProof.Rows L2
section
variable {X : Cx} {Wx : WX}
end
end DL
set_option maxHeartbeats 4000000
namespace DL
open PySem PySem.Spec PyProof.Rows L2
section
variable {X : Cx} {Wx : WX}
end
end DL
namespace DL
open PySem PySem.Spec PyProof.Rows L2
section
variable {X : Cx} {Wx : WX}
end
end DL
set_option maxHeartbeats 1000000
namespace DL
open PySem PySem.Spec PyProof.Rows L2
section
variable {K : KM} {w : Wd}
end
section
variable {X : Cx} {Wx : WX}
section
variable {tg iter kx vx : Expr} {pos : Pos} {ifs : List Expr} {scope : Scope} {own : List (Str × Nat)} {fi : FA} {is vs : List Nat} {g : U → En → Option En} {ft : FT} {fk fv : FE}
end
def extM (u : U) (us : List U) (S : Sto) : R U := match u, us with
  | .loc n, [y] => match S[n]?, listM y S with
    | some (.lst xs), some zs => guard (decide (xs.length + zs.length ≤ sizeLine)) (.ok .non (S.set n (.lst (xs ++ zs))))
    | _, _ => .bad
  | _, _ => .bad
theorem ms_extend : MtSim X "list.extend" extM := by
  refine ⟨_, mt_extend, fun u us S => by unfold extM; split <;> first | trivial | (split <;> first | trivial | exact noX_guard trivial), fun w u us v vs Q s r rs h => ?_⟩
  unfold extM at h
  split at h
  · rename_i n y
    split at h
    · rename_i xs zs hS hy
      obtain ⟨hl, h⟩ := guard_post h
      cases r with
      | @loc _ a hm =>
        cases rs with
        | cons ry rs =>
          cases rs
          obtain ⟨vs, q, r1⟩ := s.obj n a _ hm hS
          obtain ⟨b, ws, rfl, q2, r2⟩ := listM_ok s ry hy
          have st1 : Stp w (w.put n a (.lst (vs ++ ws)) (.lst (xs ++ zs))) := Stp.put s hm hS (by intro z; cases z)
          refine ⟨a, b, vs, ws, rfl, rfl, q, q2, by rw [← r1.length, ← r2.length]; exact of_decide_eq_true hl, ?_⟩
          exact h (w.put n a _ _) .non rfl st1 (s.put hm hS (by intro z; cases z) ⟨_, upd_same, (r1.append r2).ext st1.x s⟩) .non
    · exact h.elim
  · exact h.elim
end
end DL
set_option maxHeartbeats 1000000
namespace DL
open PySem PySem.Spec PyProof.Rows L2
section
variable {X : Cx} {Wx : WX} {tg iter : Expr} {body : List Stmt} {pos : Pos}
end
end DL
set_option maxHeartbeats 1000000
namespace DL
open PySem PySem.Spec PyProof.Rows L2 RZ
abbrev FG := En → Sto → R (List U × (Sto → Prop))
open Classical in
section
variable {X : Cx} {Wx : WX}
section
variable {tg iter elt : Expr} {pos : Pos} {ifs : List Expr} {scope : Scope} {own : List (Str × Nat)} {fi : FG} {is vs : List Nat} {g : U → En → Option En} {ft : FT} {fe : FE}
end
end
end DL
set_option maxHeartbeats 1000000
namespace DL
open PySem PySem.Spec PyProof.Rows L2
section
variable {X : Cx} {Wx : WX} {pos : Pos}
end
end DL
set_option maxHeartbeats 1000000
namespace DL
open PySem PySem.Spec PyProof.Rows L2
section
variable {X : Cx} {Wx : WX} {pos : Pos}
end
end DL
set_option maxHeartbeats 1000000
namespace DL
open PySem PySem.Spec L2 PyProof.Rows
section
variable {X : Cx} {Wx : WX} {tg : Expr}
end
end DL
set_option maxHeartbeats 1000000
namespace SRT
open PySem PySem.Calls PySem.W PySem.SeqAt PyProof.Rows
section
variable {prog : Program} {w : World} {A : Around} {E : Value → Shared → Prop} {s : Shared}
end
end SRT
namespace DL
open PySem PySem.Spec L2
section
variable {X : Cx} {Wx : WX}
end
end DL
set_option maxHeartbeats 1000000
namespace DL
open PySem PySem.Spec L2 PyProof.Rows
section
variable {X : Cx} {Wx : WX}
end
end DL
set_option maxHeartbeats 1000000
namespace DL
open PySem PySem.Spec L2 PyProof.Rows
section
variable {X : Cx} {Wx : WX}
structure SimK (X : Cx) (Wx : WX) (kws : List Keyword) (fk : FA) : Prop where
  out : ∃ t, PK X kws t ∧ ∀ (w : Wd) (d : En) (σ : L2.St) (Q : List V → Hp → Prop), SR (KMof X) w → ER (KMof X) w d σ → Pst (fk d w.S) (OkA X w Q) (XPost X Wx σ w) → t σ w.H Q
variable {CX : CXT} {k n : Nat} {f C : Addr} {fd : FuncData} {ps ks : List Str} {sp : Sp} {E : L2.St → XK} {x : Str} {p pos : Pos} {e : Expr} {es : List Expr} {kws : List Keyword} {t tk : TA} {kkV : List V → List V}
end
end DL
set_option maxHeartbeats 1000000
namespace NEQ
open PySem PySem.W
open Sem (wp)
section
variable {prog : Program} {w : World} {A : Around} {E : Value → Shared → Prop} {s : Shared} {K : Frag} {x C f : Addr} {ox : Obj} {od : Option Obj} {b : Value}
end
end NEQ
namespace DL
open PySem PySem.Spec L2
section
variable {X : Cx} {Wx : WX}
end
end DL
set_option maxHeartbeats 4000000
namespace DL
open PySem PySem.Spec L2 PyProof.Rows
section
variable {X : Cx} {x n x2 n2 : Str} {c c2 : Value} {i i2 : Nat} {body suite suite2 : List Stmt} {s0 t0 : Stmt} {np np2 pos pos' pos2 : Pos} {tb : WX → TS} {ts ts2 : Addr → TS} {Wout : WX}
end
section
variable {X : Cx} {Wx : WX} {x n x2 n2 : Str} {c c2 : Value} {i i2 : Nat} {body suite suite2 : List Stmt} {s0 t0 : Stmt} {np np2 pos pos' pos2 : Pos} {fb fs fs2 : FS} {m m2 : Str → Option Bool}
end
end DL
namespace DL
open PySem PySem.Spec L2
end DL
set_option maxHeartbeats 4000000
namespace DL
open PySem PySem.Spec PyProof.Rows L2
section
variable {prog : Program} {w : World} {A : Around} {E : Value → Shared → Prop} {s : Shared}
end
section
variable {X : Cx} {Wx : WX}
end
end DL
set_option maxHeartbeats 4000000
namespace DL
open PySem PySem.Spec PyProof.Rows L2
section
variable {X : Cx} {Wx : WX}
end
end DL
set_option maxHeartbeats 1000000
namespace DL
open PySem PySem.Spec L2 PyProof.Rows
section
variable {X : Cx} {Wx : WX}
end
end DL
set_option maxHeartbeats 1000000
namespace TFI
open PySem PyProof.Rows SeqAt
end TFI
namespace DL
open PySem PySem.Spec L2 PyProof.Rows
section
variable {X : Cx} {Wx : WX}
end
end DL
namespace DL
open PySem PySem.Spec L2
section
variable {X : Cx}
end
end DL
namespace PySem.SeqAt
open AutoSeq1 (wpAny_loadPart')
open MeetsSeq MeetsSeq2 MeetsSeq3 SeqRoads2
section
variable {prog : Program} {w : World}
variable {A : Around} {E : Value → Shared → Prop} {s : Shared}
end
end PySem.SeqAt
namespace DL
open PySem PySem.Spec L2
section
variable {X : Cx} {Wx : WX}
end
end DL
set_option maxHeartbeats 1000000
namespace TPE
open PySem PySem.SeqAt
open AutoSeq1 (wpAny_loadPart')
open MeetsSeq MeetsSeq2 MeetsSeq3 SeqRoads2
section
variable {prog : Program} {w : World} {A : Around} {R : Result → Shared → Prop}
end
section
variable {prog : Program} {w : World} {A : Around} {E : Value → Shared → Prop} {s : Shared}
end
end TPE
namespace DL
open PySem PySem.Spec L2
section
variable {X : Cx} {Wx : WX}
open Classical in
end
end DL
namespace DL
open PySem PySem.Spec L2
mutual
def closedU : U → Bool
  | .loc _ => false
  | .tup us => closedUs us
  | .lst us => closedUs us
  | .frz us => closedUs us
  | .dic _ us => closedUs us
  | .exc _ _ u => closedU u
  | _ => true
def closedUs : List U → Bool
  | [] => true
  | u :: us => closedU u && closedUs us
end
mutual
def shU (b : Nat) : U → U
  | .loc n => .loc (b + n)
  | .tup us => .tup (shUs b us)
  | .lst us => .lst (shUs b us)
  | .frz us => .frz (shUs b us)
  | .dic ks us => .dic ks (shUs b us)
  | .exc c f u => .exc c f (shU b u)
  | u => u
def shUs (b : Nat) : List U → List U
  | [] => []
  | u :: us => shU b u :: shUs b us
end
def shOb (b : Nat) : Ob → Ob
  | .lst us => .lst (shUs b us)
  | .dic ks us => .dic ks (shUs b us)
  | .ins c fs => .ins c (fs.map fun p => (p.1, shU b p.2))
  | .kd ks us => .kd (shUs b ks) (shUs b us)
  | .bd ks us => .bd ks (shUs b us)
  | .dead => .dead
theorem shUs_map (b : Nat) : ∀ us : List U, shUs b us = us.map (shU b)
  | [] => rfl
  | u :: us => by unfold shUs; rw [shUs_map b us]; rfl
mutual
theorem sh_closed (b : Nat) : ∀ u : U, closedU u = true → shU b u = u
  | .loc _, h => by cases h
  | .tup us, h => by unfold shU; rw [shs_closed b us h]
  | .lst us, h => by unfold shU; rw [shs_closed b us h]
  | .frz us, h => by unfold shU; rw [shs_closed b us h]
  | .dic ks us, h => by unfold shU; rw [shs_closed b us h]
  | .exc c f u, h => by unfold shU; rw [sh_closed b u h]
  | .non, _ => rfl
  | .bl _, _ => rfl
  | .int _, _ => rfl
  | .str _, _ => rfl
  | .ty _, _ => rfl
  | .cl _, _ => rfl
theorem shs_closed (b : Nat) : ∀ us : List U, closedUs us = true → shUs b us = us
  | [], _ => rfl
  | u :: us, h => by
    unfold closedUs at h
    rw [Bool.and_eq_true] at h
    unfold shUs
    rw [sh_closed b u h.1, shs_closed b us h.2]
end
mutual
theorem keyN_sh (b : Nat) : ∀ u : U, keyN (shU b u) = keyN u
  | .loc _ => rfl
  | .tup us => by unfold shU keyN; rw [keyNs_sh b us]
  | .lst us => rfl
  | .frz us => rfl
  | .dic ks us => rfl
  | .exc c f u => rfl
  | .non => rfl
  | .bl _ => rfl
  | .int _ => rfl
  | .str _ => rfl
  | .ty _ => rfl
  | .cl _ => rfl
theorem keyNs_sh (b : Nat) : ∀ us : List U, keyNs (shUs b us) = keyNs us
  | [] => rfl
  | u :: us => by unfold shUs keyNs; rw [keyN_sh b u, keyNs_sh b us]
end
theorem keyT_sh (b : Nat) (u : U) : keyT (shU b u) = keyT u := by unfold keyT; rw [keyN_sh]
section
variable {K : KM} {w w' : Wd}
def notDead : Ob → Bool
  | .dead => false
  | _ => true
theorem notDead_iff {o : Ob} : notDead o = true ↔ o ≠ .dead := by cases o <;> simp [notDead]
def keptL (w : Wd) : List Addr := (List.range w.m.length).filterMap fun n => match w.m[n]?, w.S[n]? with
  | some a, some o => if notDead o = true then some a else none
  | _, _ => none
theorem keptL_mem {a : Addr} : a ∈ keptL w ↔ w.kept a := by
  unfold keptL
  rw [List.mem_filterMap]
  constructor
  · rintro ⟨n, _, h⟩
    split at h
    · rename_i a' o h1 h2
      split at h
      · rename_i h3
        cases h
        exact ⟨n, o, h1, h2, notDead_iff.mp h3⟩
      · cases h
    · cases h
  · rintro ⟨n, o, h1, h2, h3⟩
    refine ⟨n, List.mem_range.mpr (List.getElem?_eq_some_iff.mp h1).1, ?_⟩
    rw [h1, h2]
    dsimp only
    rw [if_pos (notDead_iff.mpr h3)]
def Wd.bare (w : Wd) : Wd := ⟨[], [], w.H, w.r ++ keptL w⟩
theorem bare_r {a : Addr} : a ∈ w.bare.r ↔ w.live a := by
  show a ∈ w.r ++ keptL w ↔ _
  rw [List.mem_append, keptL_mem]
  rfl
theorem bare_live {a : Addr} : w.bare.live a ↔ w.live a := by
  constructor
  · rintro (h | ⟨n, o, h, _⟩)
    · exact bare_r.mp h
    · cases h
  · exact fun h => .inl (bare_r.mpr h)
theorem SR.bare (s : SR K w) : SR K w.bare := by
  refine ⟨rfl, fun i j a o o' h => (by cases h), fun n a o h => (by cases h), fun a h => ?_, fun a _ ⟨n, o, h, _⟩ => (by cases h)⟩
  rcases bare_r.mp h with h | ⟨n, o, h1, h2, h3⟩
  · exact s.rk a h
  · have q := s.obj n a o h1 h2
    cases o with
    | lst us => obtain ⟨xs, e, _⟩ := q; exact ⟨_, e, .inl (.inl ⟨_, rfl⟩)⟩
    | dic ks us => obtain ⟨xs, e, _⟩ := q; exact ⟨_, e, .inl (.inr ⟨_, rfl⟩)⟩
    | ins c fs => obtain ⟨C, dx, xs, _, e, _⟩ := q; exact ⟨_, e, .inr (.inl ⟨_, _, _, rfl⟩)⟩
    | kd ks us => obtain ⟨L, e, _⟩ := q; exact ⟨_, e, .inr (.inr (.inl ⟨_, rfl⟩))⟩
    | bd ks us => obtain ⟨xs, e, _⟩ := q; exact ⟨_, e, .inr (.inr (.inr ⟨_, rfl⟩))⟩
    | dead => exact absurd rfl h3
mutual
theorem VR.bare : ∀ {u : U} {v : V}, closedU u = true → VR K w u v → VR K w.bare u v
  | _, _, _, .non => .non
  | _, _, _, .bl b => .bl b
  | _, _, _, .int i => .int i
  | _, _, _, .str y => .str y
  | _, _, c, .tup h r => .tup h (VRs.bare c r)
  | _, _, c, .lst h n r => .lst h (fun q => n (bare_live.mp q)) (VRs.bare c r)
  | _, _, c, .frz h r => .frz h (VRs.bare c r)
  | _, _, c, .dic h n l r => .dic h (fun q => n (bare_live.mp q)) l (VRs.bare c r)
  | _, _, c, .loc h => by cases c
  | _, _, _, .ty n => .ty n
  | _, _, c, .exc h h2 m r => .exc h h2 m (VR.bare c r)
  | _, _, _, .cl h => .cl h
theorem VRs.bare : ∀ {us : List U} {vs : List V}, closedUs us = true → VRs K w us vs → VRs K w.bare us vs
  | _, _, _, .nil => .nil
  | _, _, c, .cons h r => by
    unfold closedUs at c
    rw [Bool.and_eq_true] at c
    exact .cons (VR.bare c.1 h) (VRs.bare c.2 r)
end
def Wd.both (w w' : Wd) : Wd := ⟨w.m ++ w'.m, w.S ++ w'.S.map (shOb w.S.length), w'.H, w.r⟩
theorem both_kept (s : SR K w) (s' : SR K w') {a : Addr} (h : (w.both w').kept a) : w.kept a ∨ w'.kept a := by
  obtain ⟨n, o, h1, h2, h3⟩ := h
  have h1 : (w.m ++ w'.m)[n]? = some a := h1
  have h2 : (w.S ++ w'.S.map (shOb w.S.length))[n]? = some o := h2
  have l := s.len
  by_cases hn : n < w.m.length
  · rw [List.getElem?_append_left hn] at h1
    rw [List.getElem?_append_left (by omega)] at h2
    exact .inl ⟨n, o, h1, h2, h3⟩
  · rw [List.getElem?_append_right (by omega)] at h1 h2
    rw [List.getElem?_map] at h2
    obtain ⟨o', e1, e2⟩ := Option.map_eq_some_iff.mp h2
    rw [← l] at e1
    refine .inr ⟨_, o', h1, e1, fun z => h3 ?_⟩
    rw [← e2, z]
    rfl
theorem both_live (s : SR K w) (s' : SR K w') (st : Stp w.bare w') {a : Addr} (h : (w.both w').live a) : w'.live a := by
  rcases h with h | h
  · exact .inl (by rw [st.r]; exact bare_r.mpr (.inl h))
  · rcases both_kept s s' h with h | h
    · exact .inl (by rw [st.r]; exact bare_r.mpr (.inr h))
    · exact .inr h
mutual
theorem VR.both (s : SR K w) (s' : SR K w') (st : Stp w.bare w') : ∀ {u : U} {v : V}, VR K w' u v → VR K (w.both w') (shU w.S.length u) v
  | _, _, .non => .non
  | _, _, .bl b => .bl b
  | _, _, .int i => .int i
  | _, _, .str y => .str y
  | _, _, .tup h r => .tup h (VRs.both s s' st r)
  | _, _, .lst h n r => .lst h (fun q => n (both_live s s' st q)) (VRs.both s s' st r)
  | _, _, .frz h r => .frz h (VRs.both s s' st r)
  | _, _, .dic h n l r => .dic h (fun q => n (both_live s s' st q)) (by rw [shUs_map, List.length_map]; exact l) (VRs.both s s' st r)
  | _, _, .loc (n := n) h => .loc (by
    show (w.m ++ w'.m)[w.S.length + n]? = _
    rw [List.getElem?_append_right (by rw [s.len]; omega), s.len, Nat.add_sub_cancel_left]
    exact h)
  | _, _, .ty n => .ty n
  | _, _, .exc h h2 m r => .exc h h2 m (VR.both s s' st r)
  | _, _, .cl h => .cl h
theorem VRs.both (s : SR K w) (s' : SR K w') (st : Stp w.bare w') : ∀ {us : List U} {vs : List V}, VRs K w' us vs → VRs K (w.both w') (shUs w.S.length us) vs
  | _, _, .nil => .nil
  | _, _, .cons h r => .cons (VR.both s s' st h) (VRs.both s s' st r)
end
theorem Ext.both (s : SR K w) (s' : SR K w') (st : Stp w.bare w') : Ext w (w.both w') := by
  refine ⟨⟨w'.m, rfl⟩, fun a o h n => st.x.keep a o h (fun q => n (bare_live.mp q)), fun a h => ?_⟩
  rcases h with h | h
  · exact .inl (.inl h)
  · rcases both_kept s s' h with h | h
    · exact .inl (.inr h)
    · exact (st.x.live a (.inr h)).imp (fun q => bare_live.mp q) id
theorem both_at (st : Stp w.bare w') {a : Addr} (h : w.live a) : w'.H a = w.H a := st.k a (bare_r.mpr h)
theorem Stp.both (s : SR K w) (s' : SR K w') (st : Stp w.bare w') : Stp w (w.both w') := ⟨Ext.both s s' st, rfl, fun a h => both_at st (.inl h)⟩
theorem SR.both (s : SR K w) (s' : SR K w') (st : Stp w.bare w') : SR K (w.both w') := by
  have x := Ext.both s s' st
  have l := s.len
  have cut : ∀ {n : Nat} {a : Addr} {o : Ob}, (w.m ++ w'.m)[n]? = some a → (w.S ++ w'.S.map (shOb w.S.length))[n]? = some o → (w.m[n]? = some a ∧ w.S[n]? = some o) ∨ (w.m.length ≤ n ∧ w'.m[n - w.m.length]? = some a ∧ ∃ o', w'.S[n - w.m.length]? = some o' ∧ o = shOb w.S.length o') := fun {n a o} h1 h2 => by
    by_cases hn : n < w.m.length
    · rw [List.getElem?_append_left hn] at h1
      rw [List.getElem?_append_left (by omega)] at h2
      exact .inl ⟨h1, h2⟩
    · rw [List.getElem?_append_right (by omega)] at h1 h2
      rw [List.getElem?_map] at h2
      obtain ⟨o', e1, e2⟩ := Option.map_eq_some_iff.mp h2
      rw [← l] at e1
      exact .inr ⟨by omega, h1, o', e1, e2.symm⟩
  have dd : ∀ {o' : Ob}, shOb w.S.length o' ≠ .dead → o' ≠ .dead := fun {o'} h e => h (by rw [e]; rfl)
  have mix : ∀ {i j : Nat} {a : Addr} {o o' : Ob}, w.m[i]? = some a → w.S[i]? = some o → o ≠ .dead → w'.m[j]? = some a → w'.S[j]? = some o' → o' ≠ .dead → False := fun {i j a o o'} h1 h2 h3 h4 h5 h6 =>
    s'.rd a (by rw [st.r]; exact bare_r.mpr (.inr ⟨i, o, h1, h2, h3⟩)) ⟨j, o', h4, h5, h6⟩
  refine ⟨?_, fun i j a o o' h1 h2 h3 h4 d d' => ?_, fun n a o h1 h2 => ?_, fun a h => ?_, fun a h q => ?_⟩
  · show (w.m ++ w'.m).length = (w.S ++ w'.S.map (shOb w.S.length)).length
    rw [List.length_append, List.length_append, List.length_map, l, s'.len]
  · rcases cut h1 h3 with ⟨p1, p2⟩ | ⟨p0, p1, o1, p2, rfl⟩ <;> rcases cut h2 h4 with ⟨q1, q2⟩ | ⟨q0, q1, o2, q2, rfl⟩
    · exact s.inj i j a o o' p1 q1 p2 q2 d d'
    · exact (mix p1 p2 d q1 q2 (dd d')).elim
    · exact (mix q1 q2 d' p1 p2 (dd d)).elim
    · have := s'.inj _ _ a o1 o2 p1 q1 p2 q2 (dd d) (dd d')
      omega
  · rcases cut h1 h2 with ⟨p1, p2⟩ | ⟨p0, p1, o1, p2, rfl⟩
    · by_cases hd : o = .dead
      · subst hd; trivial
      · exact (s.obj n a o p1 p2).ext x s (both_at st (.inr ⟨n, o, p1, p2, hd⟩))
    · have q := s'.obj _ a o1 p1 p2
      cases o1 with
      | lst us => obtain ⟨xs, e, r⟩ := q; exact ⟨xs, e, VRs.both s s' st r⟩
      | dic ks us => obtain ⟨xs, e, l2, r⟩ := q; exact ⟨xs, e, by rw [shUs_map, List.length_map]; exact l2, VRs.both s s' st r⟩
      | ins c fs =>
        obtain ⟨C, dx, xs, m, e, r⟩ := q
        refine ⟨C, dx, xs, m, ?_, ?_⟩
        · show w'.H a = some (.ins C dx (((fs.map fun p => (p.1, shU w.S.length p.2)).map (·.1)).zip xs))
          rw [List.map_map]
          exact e
        · have := VRs.both s s' st r
          rw [shUs_map, List.map_map] at this
          show VRs K (w.both w') ((fs.map fun p => (p.1, shU w.S.length p.2)).map (·.2)) xs
          rw [List.map_map]
          exact this
      | kd ks us =>
        obtain ⟨L, e, r1, r2, r3⟩ := q
        refine ⟨L, e, VRs.both s s' st r1, ?_, VRs.both s s' st r3⟩
        rw [shUs_map, List.map_map, ← r2]
        exact List.map_congr_left fun u _ => keyT_sh _ u
      | bd ks us => obtain ⟨xs, e, l2, r⟩ := q; exact ⟨xs, e, by rw [shUs_map, List.length_map]; exact l2, VRs.both s s' st r⟩
      | dead => trivial
  · obtain ⟨o, e, m⟩ := s.rk a h
    exact ⟨o, (both_at st (.inl h)).trans e, m⟩
  · rcases both_kept s s' q with q | q
    · exact s.rd a h q
    · exact s'.rd a (by rw [st.r]; exact bare_r.mpr (.inl h)) q
end
def shR (b : Nat) (S : Sto) (r : R U) : R U := match r with
  | .ok u T => .ok (shU b u) (S ++ T.map (shOb b))
  | .exc x T => .exc ⟨x.cls, x.fld, shU b x.arg⟩ (S ++ T.map (shOb b))
  | .bad => .bad
def fresh (g : List U → Sto → R U) (us : List U) (S : Sto) : R U := guard (closedUs us) (shR S.length S (g us []))
end DL
namespace DL
open PySem PySem.Spec L2
section
variable {X : Cx} {Wx : WX}
end
end DL
set_option maxHeartbeats 1000000
namespace DL
open PySem PySem.Spec L2
structure FnG (P : Program) (w : World) (K : PySem.W.Frag) (mg : Str → Option Value) (base : Heap) (CX : CXT) (k : Nat) (f : Addr) (fd : FuncData) (ps : List Str) (sp : Sp) : Prop where
  len : ∀ vs H Q E, sp vs H Q E → vs.length = ps.length
  run : ∀ (A : Around) (outer : List Env) (s : Shared) (H : Hp) (args : Args) (us : List Value) (vs : List V) (Q : VK) (E : XK), A.guards = some [] → Room k A → Env0 P w K mg base A outer s H → BindsTo s fd args (ps.zip us) → Vals vs us → sp vs H Q E →
    codeAny (model P w) A (.call (.ref f) args) (CR CX outer P w H s Q E) s
section
variable {P : Program} {w : World} {K : PySem.W.Frag} {mg : Str → Option Value} {base : Heap} {CX : CXT} {f : Addr} {fd : FuncData} {ps N : List Str} {k : Nat}
theorem FnG.of {sp : Sp} (F : FnOk P w K mg base CX k f fd ps sp) : FnG P w K mg base CX k f fd ps sp := ⟨F.len, fun A outer s H args us vs Q E _ => F.run A outer s H args us vs Q E⟩
theorem FnG.imp {sp sp' : Sp} (F : FnG P w K mg base CX k f fd ps sp) (h : ∀ vs H Q E, sp' vs H Q E → sp vs H Q E) : FnG P w K mg base CX k f fd ps sp' :=
  ⟨fun vs H Q E q => F.len vs H Q E (h _ _ _ _ q), fun A outer s H args us vs Q E g hr he hb hv hs => F.run A outer s H args us vs Q E g hr he hb hv (h _ _ _ _ hs)⟩
theorem fn_g {x qual : Str} {st : Stmt} {sp : Sp} (F : Fun K x qual st f fd) (Sc : FnScope N ps (defScope st)) (len : ∀ vs H Q E, sp vs H Q E → vs.length = ps.length)
    (body : ∀ (cdv : Value) (A : Around) (outer : List Env) (s : Shared) (H : Hp) (vs : List V) (Q : VK) (E : XK), A.guards = some [] → Room k (A.deeper (PyProof.Rows.envOfC qual (defScope st) s.heap.objs.size f cdv)) → sp vs H Q E →
      ∃ t, PSs (cxOf CX P w K mg base N qual (defScope st) f cdv A outer s H E) (defBody st) t ∧ t { nx := fun _ H' => Q .non H', rt := Q } (start N vs) H) : FnG P w K mg base CX (k + 1) f fd ps sp := by
  obtain ⟨oc, od, kV, doc, pm, an, cdv, ct, osl, rfl, looked, coded⟩ := F.ex
  refine ⟨len, fun A outer s H args us vs Q E free room env0 bound rv said => ?_⟩
  have many := len _ _ _ _ said
  have inK : K.In s.heap := env0.mod.kin.keeps fun a o z => (env0.bs a o z).1
  have noL : s.heap.NoLimit := env0.mod.nolimit.keeps fun a o z => (env0.bs a o z).1
  have kinds : ∀ y ∈ ps.zip us, (defScope st).names.lookup y.1 = some .local ∨ ((defScope st).names.lookup y.1 = some .cell ∧ ((cellsFrom (s.heap.objs.size + 1) (defScope st).names []).lookup y.1).isSome = true) := fun ⟨z1, z2⟩ hy =>
    (Sc.par z1 (List.of_mem_zip hy).1).imp id fun q => ⟨q, PySem.W.cellsFrom_some _ _ _ (.inl q)⟩
  refine codeAny_call_function room.depth (inK _ _ looked) rfl Sc.co Sc.gen rfl (PySem.W.codeRec_of inK coded) (bound _ _ _ _ ?_)
  refine wpAny_newFunctionEnv_cells Sc.kind kinds fun env isEnv s1 grown => ?_
  subst isEnv
  refine ⟨noL.keeps grown.toInCall.keep, codeAny_func ?_⟩
  obtain ⟨t, pt, qt⟩ := body cdv A outer s H vs Q E free (room.deeper _) said
  have J : Inv (cxOf CX P w K mg base N qual (defScope st) f cdv A outer s H E) [] (start N vs) H s1 := inv_start Sc room.hd env0 many rv grown
  refine wpAny_mono (pt.run [] s1 (start N vs) H _ J qt) (fun fl s2 ends => ?_) fun e s2 ends => ends
  have out : ∀ {σ2 : St} {H2 : Hp} {v : V} {u : Value}, Inv (cxOf CX P w K mg base N qual (defScope st) f cdv A outer s H E) [] σ2 H2 s2 → RelV v u → Q v H2 → CE outer P w H s Q u s2 :=
    fun {σ2 H2 v u} I2 r2 q2 => ⟨v, H2, I2.os, I2.bare, I2.base, I2.hok, r2, q2⟩
  cases fl with
  | ret u =>
    obtain ⟨v, σ2, H2, I2, r2, q2⟩ := ends
    exact out I2 r2 q2
  | next =>
    obtain ⟨σ2, H2, I2, q2⟩ := ends
    exact out (v := V.non) (u := Value.none) I2 rfl q2
  | brk => exact (ends.choose_spec.choose_spec.2 : False).elim
  | cont => exact (ends.choose_spec.choose_spec.2 : False).elim
theorem fn_simG {x qual : Str} {st : Stmt} {g : List U → Sto → R U} {body : FS} (F : Fun K x qual st f fd) (Sc : FnScope N ps (defScope st)) (hg : ∀ us S, us.length = ps.length → g us S = runB body (enStart N.length us) S)
    (hbody : ∀ (cdv : Value) (A : Around) (outer : List Env) (s : Shared) (H : Hp) (E : XK), A.guards = some [] → Room k (A.deeper (PyProof.Rows.envOfC qual (defScope st) s.heap.objs.size f cdv)) →
      SimB (cxOf (L2.CX P w) P w K mg base N qual (defScope st) f cdv A outer s H E) (fun cls d _ H' => E cls d H') (defBody st) body) : FnG P w K mg base (L2.CX P w) (k + 1) f fd ps (spOf ⟨K, mg, P, w⟩ ps.length g) := by
  refine fn_g F Sc (fun vs H Q E h => ?_) fun cdv A outer s H vs Q E free hr h => ?_
  · obtain ⟨w, us, _, _, rs, l, _⟩ := h
    rw [← rs.length, l]
  · obtain ⟨w, us, e, sr, rs, l, q⟩ := h
    subst e
    obtain ⟨t, p, hb⟩ := (hbody cdv A outer s w.H E free hr).out
    refine ⟨t, p, hb w (enStart N.length us) (start N vs) _ sr (ER.start rs) ?_⟩
    rw [hg us w.S l] at q
    unfold runB at q
    cases hh : body (enStart N.length us) w.S with
    | ok fl S1 =>
      rw [hh] at q
      intro w1 eS st s1
      cases fl with
      | nx d => exact fun σ' _ => q w1 .non eS st s1 .non
      | rt u => exact fun v r => q w1 v eS st s1 r
      | bk d => exact q.elim
      | ct d => exact q.elim
      | ex x d => exact fun σ' _ cls dd xr => q w1 cls dd eS st s1 xr
    | exc x S1 =>
      rw [hh] at q
      exact q.elim
    | bad =>
      rw [hh] at q
      exact q.elim
theorem law_ofG {n : Nat} {g : List U → Sto → R U} (F : FnG P w K mg base (L2.CX P w) k f fd ps (spOf ⟨K, mg, P, w⟩ 1 g)) (hg : ∀ ns : List Int, ns.length ≤ n → ∃ S', g [.frz (ns.map .int)] [] = .ok (.bl true) S') : FnG P w K mg base (L2.CX P w) k f fd ps (spLaw K n) := by
  refine F.imp fun vs H Q E h => ?_
  obtain ⟨a, ns, rfl, ho, hq, hl, q⟩ := h
  obtain ⟨S', e⟩ := hg ns hl
  have fz : FzL K H a (ns.map V.int) := by
    rcases hq with (h | h) | h
    · rcases ho a with z | ⟨o, xs, z⟩
      · rw [h] at z; cases z
      · rw [h] at z; cases z
    · exact .inl h
    · exact .inr h
  refine ⟨⟨[], [], H, []⟩, [.frz (ns.map .int)], rfl, ⟨rfl, fun i j a o o' h1 => (by simp at h1), fun n a o h1 => (by simp at h1), fun a h => (by simp at h), fun a h => (by simp at h)⟩, .cons (.frz fz (ints_vr ns)) .nil, rfl, ?_⟩
  rw [e]
  intro w' v _ _ _ r
  cases r
  exact q _
end
section
open PyProof.Rows
theorem law_callG {P : Program} {w : World} {K : PySem.W.Frag} {mg mb : Str → Option Value} {CX : CXT} {k : Nat} {fa a : Addr} {fd : FuncData} {x : Str} {sp : Sp} {s1 : Shared} {vs : List Value} {ns : List Int}
    (inK : K.In s1.heap) (isM : s1.heap.Ns mainGlobals mg) (isB : s1.heap.Ns builtinsNs mb) (boot : ∀ y : Str, y ≠ "__name__" → mb y = bootBuiltins y) (noL : s1.heap.NoLimit) (noG : s1.gens = #[])
    (tape : s1.heap.get? a = some { cls := .type "list", data := .seq vs.toArray }) (isI : IntsAre vs ns) (few : ns.length ≤ sizeLine) (room : Room k callerA)
    (F : ∀ base : Heap, K.In base → base.Ns mainGlobals mg → FnG P w K mg base CX k fa fd [x] sp) (binds : ∀ (s : Shared) (u : Value), BindsTo s fd ⟨[u], []⟩ [(x, u)])
    (said : ∀ H : Hp, Only H → SqL K H a (ns.map V.int) → sp [.ref a] H (fun v _ => v = .bl true) fun _ _ _ => False)
    (noX : ∀ H e s', CX [] H s1 (fun _ _ _ => False) e s' → False) :
    codeAny (model P w) callerA (.call (.ref fa) ⟨[.ref a], []⟩) (fun r s' => r = .ok (.ret (.bool true)) ∧ OldK s1.heap s'.heap ∧ s'.os = s1.os ∧ AllBare s'.gens) s1 := by
  have rvs := vals_ints isI
  have lvs := isI.length
  have main : ∀ H : Hp, Only H → SqL K H a (ns.map V.int) → HOk P w H s1.heap → (∀ b, H b ≠ none → b = a) → (H a ≠ none → K.lookup a = none) →
      codeAny (model P w) callerA (.call (.ref fa) ⟨[.ref a], []⟩) (fun r s' => r = .ok (.ret (.bool true)) ∧ OldK s1.heap s'.heap ∧ s'.os = s1.os ∧ AllBare s'.gens) s1 := by
    intro H only seq ok alone notK
    have toBase : ∀ {b : Addr} {o : Obj}, s1.heap.get? b = some o → H b = none → (hidT s1.heap H).get? b = some o := fun z1 z2 => hidT_get z1 z2
    have isNone : ∀ {b : Addr}, b ≠ a → H b = none := fun {b} ne => by
      cases z : H b with
      | none => rfl
      | some u => exact absurd (alone b (by rw [z]; simp)) ne
    have dictNone : ∀ {b : Addr} {o : Obj} {es : Array DictEntry} {ep : Nat}, s1.heap.get? b = some o → o.data = .dict es ep → H b = none := fun {b o es ep} z1 z2 => isNone fun z => by
      rw [z, tape] at z1
      cases z1
      exact nomatch z2
    have nsBase : ∀ {b : Addr} {m : Str → Option Value}, s1.heap.Ns b m → (hidT s1.heap H).Ns b m := fun {b m} ⟨o, es, ep, z1, z2, z3⟩ => ⟨o, es, ep, toBase z1 (dictNone z1 z2), z2, z3⟩
    have kBase : K.In (hidT s1.heap H) := fun b o z => toBase (inK b o z) (by
      by_cases e : b = a
      · cases q : H b with
        | none => rfl
        | some u =>
          rw [e] at z q
          rw [notK (by rw [q]; simp)] at z
          cases z
      · exact isNone e)
    have mods : Mod K mg (hidT s1.heap H) := ⟨kBase, nsBase isM, ⟨mb, nsBase isB, boot⟩, let ⟨mc, z1, z2⟩ := noL; ⟨mc, nsBase z1, z2⟩⟩
    have env0 : Env0 P w K mg (hidT s1.heap H) callerA [] s1 H := ⟨rfl, mods, fun b o z => of_hidT z, Nat.le_of_eq (hidT_size _ _), trivial, fun b z => (List.not_mem_nil z).elim, ok, .of_eq noG⟩
    refine codeAny_mono ((F _ kBase (nsBase isM)).run callerA [] s1 H ⟨[.ref a], []⟩ [.ref a] [.ref a] _ _ rfl room env0 (binds s1 (.ref a)) (.cons rfl .nil) (said H only seq)) fun r s' ends => ?_
    cases r with
    | error e => exact (noX H e s' ends).elim
    | ok fl =>
      cases fl with
      | ret u =>
        obtain ⟨v, H', os', bare', un', ok', rv', qv⟩ := ends
        have qv : v = .bl true := qv
        subst qv
        obtain rfl : u = Value.bool true := rv'
        refine ⟨rfl, OldK.of_keep fun b o z => ?_, os', bare'⟩
        rcases only b with q | ⟨ob, xs, q⟩
        · exact un'.keep b o z q (fun y => List.not_mem_nil y) (by simp)
        · obtain ⟨z1, _⟩ := ok b _ q
          obtain ⟨z2, _⟩ := ok' b _ (un'.frzs b ob _ q)
          rw [z1] at z
          cases z
          exact z2
      | _ => exact False.elim ends
  let tp : Obj := { cls := .type "list", data := .seq vs.toArray }
  cases own : K.lookup a with
  | some o =>
    have z := inK a o own
    rw [tape] at z
    cases z
    refine main (fun _ => none) (fun _ => .inl rfl) (.inr ⟨_, vs.toArray, _, own, rfl, rfl, rfl, ?_, ?_⟩) (fun b u z => nomatch z) (fun b z => absurd rfl z) fun z => absurd rfl z
    · rw [List.size_toArray, lvs]; exact few
    · simpa using rvs
  | none =>
    have at_a : (fun b => if b = a then some (HO.frz tp (.lst (ns.map V.int))) else none : Hp) a = some (HO.frz tp (.lst (ns.map V.int))) := if_pos rfl
    refine main (fun b => if b = a then some (.frz tp (.lst (ns.map V.int))) else none) (fun b => ?_) (.inl (.inr ⟨tp, at_a⟩)) (fun b u z => ?_) (fun b z => ?_) fun _ => own
    · by_cases e : b = a
      · exact .inr ⟨_, _, if_pos e⟩
      · exact .inl (if_neg e)
    · by_cases e : b = a
      · have y := (if_pos e).symm.trans z
        cases y
        subst e
        exact ⟨tape, by rw [List.length_map]; exact few, vs, _, rvs, tape⟩
      · exact nomatch (if_neg e).symm.trans z
    · by_cases e : b = a
      · exact e
      · exact absurd (if_neg e) z
theorem walk_ofG {l : PySem.W.OpenLaw} {n k : Nat} {q : Program} {loose : List Str} {XP : (Str → Option Value) → Heap → Prop} {YP : World → Heap → Prop} {d : DefRec} {K : Params → PySem.W.Frag} {CX : World → CXT} {sp : World → Sp} {x : Str}
    (most : l.most = some n) (fits : n ≤ sizeLine) (noD : d.params.defaults = []) (room : Room k callerA)
    (inY : ∀ (w : World) (h : Heap), YP w h → (K w.params).In h)
    (F : ∀ (w : World) (mg : Str → Option Value) (fa : Addr) (h : Heap), (K w.params).In h → h.Ns mainGlobals mg → mg d.name = some (.ref fa) →
      ∃ fd : FuncData, (∀ (s : Shared) (u : Value), BindsTo s fd ⟨[u], []⟩ [(x, u)]) ∧ ∀ base : Heap, (K w.params).In base → base.Ns mainGlobals mg → FnG l.prog w (K w.params) mg base (CX w) k fa fd [x] (sp w))
    (said : ∀ (w : World) (H : Hp) (a : Addr) (ns : List Int), ns.length ≤ n → Only H → SqL (K w.params) H a (ns.map V.int) → sp w [.ref a] H (fun v _ => v = .bl true) fun _ _ _ => False)
    (noX : ∀ (w : World) (H : Hp) (s : Shared) (e : Value) (s' : Shared), CX w [] H s (fun _ _ _ => False) e s' → False) :
    PySem.W.WalkO q loose XP YP l.row.toRowW d [] (fun f vs => PySem.call f vs) := by
  refine Att.attach_call most noD fun w s0 s1 mg mb fa o pm cd doc a vs ns G Y isO isD isC isF tape isI few noG => ?_
  have inK := inY w _ Y
  obtain ⟨fd, bound, fn⟩ := F w mg fa _ inK G.T.g isF
  exact law_callG inK G.T.g G.T.b G.T.builtins G.T.nolimit noG tape isI (Nat.le_trans few fits) room fn bound (fun H z1 z2 => said w H a ns few z1 z2) fun H e s' => noX w H s1 e s'
end
section
variable {X : Cx}
def seqD : PyData → Bool
  | .tuple _ => true
  | .list _ => true
  | _ => false
def reprDC (us : List U) (S : Sto) : R U := match us with
  | [u] => match toDS u S with
    | some d => guard (seqD d && (d.showable && (!d.hasDict && (decide (d.depth ≤ 60) && decide (d.shown.length ≤ sizeLine))))) (.ok (.str d.shown) S)
    | none => .bad
  | _ => .bad
theorem seq_ref {K : PySem.W.Frag} {H : Hp} {v : V} {d : PyData} (h : Dp K H v d) (hs : seqD d = true) : ∃ a, v = .ref a := by
  cases h <;> first | exact ⟨_, rfl⟩ | cases hs
theorem call_reprD (hg : X.A.guards = some []) (hu : X.A.units + 64 < cLine) : CallR X (.builtin "repr") (fun xs H Q => ∃ (v : V) (d : PyData), xs = [v] ∧ Dp X.K H v d ∧ seqD d = true ∧ d.showable = true ∧ d.hasDict = false ∧ d.depth ≤ 60 ∧ d.shown.length ≤ sizeLine ∧ Q (.str d.shown) H) := by
  intro pins s σ H xs us Q I r h
  obtain ⟨v, d, rfl, hd, hs, h1, h2, h3, h4, q⟩ := h
  obtain ⟨a, rfl⟩ := seq_ref hd hs
  rw [Vals.ref1 r]
  obtain ⟨as, rd⟩ := Dp.reads I d _ _ hd (show RelV (.ref a) (.ref a) from rfl)
  exact repr_of_reads' rd h1 (PyData.noDict_hsm h2) hg (by omega) (fun _ _ e => e) (fun h' u tk hk => ⟨.str _, H, I.kept hk, ⟨_, rfl⟩, q⟩) h4
theorem cs_reprD (hg : X.A.guards = some []) (hu : X.A.units + 64 < cLine) : CallSim X (.builtin "repr") reprDC := by
  refine ⟨_, call_reprD hg hu, fun us S => ?_, fun w us vs Q s rs h => ?_⟩
  · unfold reprDC
    split
    · split
      · exact noX_guard trivial
      · trivial
    · trivial
  · unfold reprDC at h
    split at h
    · rename_i u
      split at h
      · rename_i d hd
        obtain ⟨hi, h2⟩ := guard_post h
        rw [Bool.and_eq_true, Bool.and_eq_true, Bool.and_eq_true, Bool.and_eq_true] at hi
        obtain ⟨i1, i2, i3, i4, i5⟩ := hi
        cases rs with
        | cons r rs =>
          cases rs
          exact ⟨_, d, rfl, toDS_ok s r hd, i1, i2, by simpa using i3, of_decide_eq_true i4, of_decide_eq_true i5, OkE.here h2 s (.str _)⟩
      · exact h.elim
    · exact h.elim
end
section
variable {X : Cx} {Wx : WX}
theorem fnG_bad {P : Program} {w : World} {K : PySem.W.Frag} {mg : Str → Option Value} {base : Heap} {f : Addr} {fd : FuncData} {ps : List Str} {g : List U → Sto → R U} (hg : ∀ us S, g us S = .bad) (n : Nat) (k : Nat) : FnG P w K mg base (L2.CX P w) k f fd ps (spOf ⟨K, mg, P, w⟩ n g) :=
  .of (fn_bad hg n k)
end
end DL
set_option maxHeartbeats 1000000
namespace DL
open PySem PySem.Spec PyProof.Rows L2
section
variable {X : Cx} {Wx : WX}
end
end DL
set_option maxHeartbeats 1000000
namespace DL
open PySem PySem.Spec L2
section
variable {X : Cx} {Wx : WX}
structure InsP (K : PySem.W.Frag) (C : Addr) : Prop where
  lst : PySem.W.kitOne K (.type "list") (.ref C) = some false
  int : PySem.W.kitOne K (.type "int") (.ref C) = some false
end
end DL
namespace DL
open PySem PySem.Spec L2
end DL
namespace DL
open PySem PySem.Spec PyProof.Rows L2
section
variable {prog : Program} {w : World} {A : Around} {E : Value → Shared → Prop} {s : Shared}
end
section
variable {X : Cx} {Wx : WX} {pos : Pos}
end
end DL
namespace DL
open PySem PySem.Spec L2
section
variable {X : Cx}
end
end DL
set_option maxHeartbeats 1000000
namespace DL
open PySem PySem.Spec PyProof.Rows L2
section
variable {K : KM} {w w' : Wd} {n : Nat} {a : Addr} {od : Obj} {kvs : List (Key × V)} {o : HO} {b : Ob}
structure Lk (w : Wd) (n : Nat) (a : Addr) (od : Obj) (kvs : List (Key × V)) : Prop where
  m : w.m[n]? = some a
  h : w.H a = some (.frz od (.dK kvs))
  nl : ¬ w.live a
theorem Lk.ne (l : Lk w n a od kvs) {c : Addr} {u : HO} (h : w.H c = some u) (hn : u ≠ .frz od (.dK kvs)) : c ≠ a := fun e => by
  subst e
  exact hn (Option.some.inj (h.symm.trans l.h))
theorem Lk.kept (l : Lk w n a od kvs) {c : Addr} (h : (w.put n a o b).kept c) : c = a ∨ w.kept c := by
  obtain ⟨k, q, h1, h2, h3⟩ := h
  have h1 : w.m[k]? = some c := h1
  rcases get_set (show (w.S.set n b)[k]? = some q from h2) with ⟨z, _⟩ | ⟨z, y⟩
  · subst z
    exact .inl (Option.some.inj (h1.symm.trans l.m))
  · exact .inr ⟨k, q, h1, y, h3⟩
theorem Lk.live (l : Lk w n a od kvs) {c : Addr} (h : (w.put n a o b).live c) : c = a ∨ w.live c := by
  rcases h with h | h
  · exact .inr (.inl h)
  · exact (l.kept h).imp id .inr
theorem Lk.at (c : Addr) (h : c ≠ a) : (w.put n a o b).H c = w.H c := upd_ne h
mutual
theorem VR.unl (l : Lk w n a od kvs) : ∀ {u : U} {v : V}, VR K w u v → VR K (w.put n a o b) u v
  | _, _, .non => .non
  | _, _, .bl b => .bl b
  | _, _, .int i => .int i
  | _, _, .str y => .str y
  | _, _, .tup h r => .tup (h.imp (fun q => (Lk.at _ (l.ne q (by intro z; cases z))).trans q) id) (VRs.unl l r)
  | _, _, .lst h nl r => .lst ((Lk.at _ (l.ne h (by intro z; cases z))).trans h) (fun q => (l.live q).elim (l.ne h (by intro z; cases z)) nl) (VRs.unl l r)
  | _, _, .frz h r => .frz (h.imp (fun ⟨o', q⟩ => ⟨o', (Lk.at _ (l.ne q (by intro z; cases z))).trans q⟩) id) (VRs.unl l r)
  | _, _, .dic h nl e r => .dic ((Lk.at _ (l.ne h (by intro z; cases z))).trans h) (fun q => (l.live q).elim (l.ne h (by intro z; cases z)) nl) e (VRs.unl l r)
  | _, _, .loc h => .loc h
  | _, _, .ty n => .ty n
  | _, _, .exc h h2 c r => .exc ((Lk.at _ (l.ne h (by intro z; unfold exv at z; cases z))).trans h) ((Lk.at _ (l.ne h2 (by intro z; cases z))).trans h2) c (VR.unl l r)
  | _, _, .cl h => .cl h
theorem VRs.unl (l : Lk w n a od kvs) : ∀ {us : List U} {vs : List V}, VRs K w us vs → VRs K (w.put n a o b) us vs
  | _, _, .nil => .nil
  | _, _, .cons h r => .cons (VR.unl l h) (VRs.unl l r)
end
theorem SR.unl (s : SR K w) (l : Lk w n a od kvs) (hr : a ∉ w.r) (hb : OR K (w.put n a o b) b a) : SR K (w.put n a o b) := by
  have ka : ∀ {k : Nat} {q : Ob}, w.m[k]? = some a → w.S[k]? = some q → q ≠ Ob.dead → False := fun h1 h2 h3 => l.nl (.inr ⟨_, _, h1, h2, h3⟩)
  refine ⟨by show w.m.length = (w.S.set n b).length; simp [s.len], fun i j c d d' h1 h2 h3 h4 e e' => ?_, fun k c d h1 h2 => ?_, fun c h => ?_, fun c h q => ?_⟩
  · have h1 : w.m[i]? = some c := h1
    have h2 : w.m[j]? = some c := h2
    rcases get_set (show (w.S.set n b)[i]? = some d from h3) with ⟨z, _⟩ | ⟨z, y⟩
    · rcases get_set (show (w.S.set n b)[j]? = some d' from h4) with ⟨z', _⟩ | ⟨z', y'⟩
      · rw [z, z']
      · rw [z] at h1
        cases l.m.symm.trans h1
        exact (ka h2 y' e').elim
    · rcases get_set (show (w.S.set n b)[j]? = some d' from h4) with ⟨z', _⟩ | ⟨z', y'⟩
      · rw [z'] at h2
        cases l.m.symm.trans h2
        exact (ka h1 y e).elim
      · exact s.inj i j c d d' h1 h2 y y' e e'
  · have h1 : w.m[k]? = some c := h1
    rcases get_set (show (w.S.set n b)[k]? = some d from h2) with ⟨z, y⟩ | ⟨z, y⟩
    · subst z y
      cases l.m.symm.trans h1
      exact hb
    · have q := s.obj k c d h1 y
      by_cases hd : d = .dead
      · subst hd; trivial
      have hc : c ≠ a := fun e => by subst e; exact ka h1 y hd
      cases d with
      | lst us => obtain ⟨xs, e, r⟩ := q; exact ⟨xs, (Lk.at _ hc).trans e, r.unl l⟩
      | dic ks us => obtain ⟨xs, e, e2, r⟩ := q; exact ⟨xs, (Lk.at _ hc).trans e, e2, r.unl l⟩
      | ins c' fs => obtain ⟨C, dx, xs, m, e, r⟩ := q; exact ⟨C, dx, xs, m, (Lk.at _ hc).trans e, r.unl l⟩
      | kd ks us => obtain ⟨L, e, r1, r2, r3⟩ := q; exact ⟨L, (Lk.at _ hc).trans e, r1.unl l, r2, r3.unl l⟩
      | bd ks us => obtain ⟨xs, e, e2, r⟩ := q; exact ⟨xs, (Lk.at _ hc).trans e, e2, r.unl l⟩
      | dead => trivial
  · obtain ⟨x, e, mo⟩ := s.rk c h
    exact ⟨x, (Lk.at _ fun z => hr (by rw [← z]; exact h)).trans e, mo⟩
  · rcases l.kept q with z | z
    · exact hr (by rw [← z]; exact h)
    · exact s.rd c h z
theorem ER.unl {d : En} {σ : L2.St} (l : Lk w n a od kvs) (e : ER K w d σ) : ER K (w.put n a o b) d σ :=
  ⟨e.len, fun i u h => let ⟨v, h1, h2⟩ := e.get i u h; ⟨v, h1, h2.unl l⟩⟩
theorem Stp.unl {b0 : Ob} (s : SR K w) (hm : w.m[n]? = some a) (hS : w.S[n]? = some b0) (hd : b0 ≠ Ob.dead) (st : Stp (w.put n a o .dead) w') : Stp w (w'.put n a (.dK kvs) b0) := by
  have hl : w.live a := .inr ⟨n, b0, hm, hS, hd⟩
  have hr : a ∉ w.r := fun z => s.rd a z ⟨n, b0, hm, hS, hd⟩
  have hk : ∀ {c : Addr}, (w.put n a o .dead).live c → w.live c := fun {c} h => h.elim .inl fun ⟨k, q, h1, h2, h3⟩ => by
    have h1 : w.m[k]? = some c := h1
    rcases get_set (show (w.S.set n .dead)[k]? = some q from h2) with ⟨_, y⟩ | ⟨_, y⟩
    · exact absurd y h3
    · exact .inr ⟨k, q, h1, y, h3⟩
  refine ⟨⟨st.x.m, fun c u h nl => ?_, fun c h => ?_⟩, st.r, fun c h => ?_⟩
  · have hc : c ≠ a := fun e => nl (by rw [e]; exact hl)
    exact (Lk.at _ hc).trans (st.x.keep c u ((Lk.at _ hc).trans h) fun q => nl (hk q))
  · by_cases e : c = a
    · rw [e]; exact .inl hl
    have h2 : w'.live c := by
      rcases h with h | ⟨k, q, h1, h2, h3⟩
      · exact .inl h
      · have h1 : w'.m[k]? = some c := h1
        rcases get_set (show (w'.S.set n b0)[k]? = some q from h2) with ⟨z, _⟩ | ⟨_, y⟩
        · obtain ⟨ml, em⟩ := st.x.m
          have em : w'.m = w.m ++ ml := em
          rw [z, em, List.getElem?_append_left (List.getElem?_eq_some_iff.mp hm).1, hm] at h1
          exact absurd (Option.some.inj h1).symm e
        · exact .inr ⟨k, q, h1, y, h3⟩
    rcases st.x.live c h2 with q | q
    · exact .inl (hk q)
    · exact .inr ((Lk.at (w := w) (n := n) (o := o) (b := .dead) _ e).symm.trans q)
  · have hc : c ≠ a := fun e => hr (by rw [← e]; exact h)
    exact (Lk.at _ hc).trans ((st.k c h).trans (Lk.at _ hc))
end
section
variable {X : Cx} {Wx : WX} {e : Expr} {body : List Stmt} {pos tpos apos cpos : Pos} {elts : List Expr} {kk : Nat}
end
end DL
namespace DL
open PySem PySem.Spec PyProof.Rows L2
section
variable {X : Cx}
end
end DL
namespace DL
open PySem PySem.Spec PyProof.Rows L2
section
variable {X : Cx} {Wx : WX}
def rWix (X : Cx) (a : Addr) (tab : List (Str × U)) : R2 := fun d y H Q => d = .ref a ∧ ∃ z u, y = .str z ∧ lookT tab z = some u ∧ ∀ v, (∀ w, VR (KMof X) w u v) → Q v H
theorem ix_w {a : Addr} {tab : List (Str × U)} (D : KTab X.K X.w a tab) : IxR X (rWix X a tab) := by
  obtain ⟨es, n, D, ht⟩ := D.ex
  intro value slice pins s σ H x y v u Q I rx ry h hs
  obtain ⟨rfl, z, w, rfl, hl, q⟩ := h
  cases rx
  obtain ⟨t, rfl⟩ := ry
  have hmap := PySem.W.mapOf_K (prog := X.prog) (w := X.w) I.kIn D.at_ D.lit
  obtain ⟨f1, f2⟩ := tab_find (z := z) ht
  obtain ⟨val, v, e1, e2, e3⟩ := f2 w hl
  exact PyProof.Rows.tail_any hmap.typeIs slot_dict_getitem.lookup (wpAny_getItem_of (PySem.strKind_is X.prog X.w z t) hmap e1 ⟨v, H, I.tok _, e2, q v (fun w => e3 w _ _ _)⟩) hs
theorem se_wix {x : Str} {p pos : Pos} {a : Addr} {tab : List (Str × U)} {e : Expr} {f : FE} (D : KTab X.K X.w a tab) (hg : Gl X x) (hm : X.mg x = some (.ref a)) (he : SimE X Wx e f) (hs : PlainIx e := by intro _ _; rfl) (hd : (x == ("__debug__" : Str)) = false := by decide) :
    SimE X Wx (.Subscript (.Name x p) e pos) (fWix tab f) := by
  obtain ⟨te, pe, he⟩ := he.out
  refine SimE.mk (pe_ix (ix_w D) (pe_glob (v := .ref a) hg hm rfl hd) pe hs) (fun w d σ Q s e h => ?_)
  refine he w d σ _ s e ((Pst.of_bind h).mono (fun u S1 h1 w1 v eS st s1 r => ?_) fun _ _ q => q)
  cases r with
  | str z =>
    cases hl : lookT tab z with
    | none =>
      have h1 : Pst (match lookT tab z with
        | some y => R.ok y S1
        | none => .bad) (OkE X w Q) (XPost X Wx σ w) := h1
      rw [hl] at h1
      exact h1.elim
    | some y =>
      have h1 : Pst (match lookT tab z with
        | some y => R.ok y S1
        | none => .bad) (OkE X w Q) (XPost X Wx σ w) := h1
      rw [hl] at h1
      exact ⟨rfl, z, y, rfl, hl, fun v hv => h1 w1 v eS st s1 (hv w1)⟩
  | _ => exact h1.elim
def fWget2 (tab : List (Str × U)) (f g : FE) : FE := fun d S => (f d S).bind fun u S1 => (g d S1).bind fun z S2 => match u with
  | .str x => .ok ((lookT tab x).getD z) S2
  | _ => .bad
theorem pe_wget2 {x : Str} {p apos cpos : Pos} {a : Addr} {tab : List (Str × U)} {e e2 : Expr} {te te2 : TE} (D : KTab X.K X.w a tab) (hg : Gl X x) (hm : X.mg x = some (.ref a)) (he : PE X e te) (he2 : PE X e2 te2) (m : M2 X (.Name x p) "get" apos e e2 cpos) (hd : (x == ("__debug__" : Str)) = false) :
    PE X (.Call (.Attribute (.Name x p) "get" apos) [e, e2] [] cpos) (fun σ H Q => te σ H fun y H1 => te2 σ H1 fun y2 H2 => ∃ z, y = .str z ∧ (lookT tab z = none → Q y2 H2) ∧ ∀ u, lookT tab z = some u → ∀ v, (∀ w, VR (KMof X) w u v) → Q v H2) := by
  obtain ⟨es, n, D, ht⟩ := D.ex
  refine ⟨fun pins s σ H Q I h => ?_⟩
  refine wpAny_Call_method m.base m.few m.line PySem.F.plainAttrs_dict PySem.F.slot_dict_get PySem.F.type_dict_get (ld_glob I hg hm ⟨kd_type D I, kd_at I D, ?_⟩ hd)
  rw [m.trees]
  refine Calls.callWith_builtin rfl (Calls.evalArgs_plain (Calls.spliced_cons (thn (he.run pins s σ H _ I h) fun iv s2 ⟨y, H2, I2, ry, h2⟩ => Calls.spliced_cons (thn (he2.run pins s2 σ H2 _ I2 h2) fun iv2 s3 ⟨y2, H3, I3, ry2, z, ez, q1, q2⟩ => Calls.spliced_nil ?_))))
  subst ez
  obtain ⟨t, rfl⟩ := ry
  have hmap := PySem.W.mapOf_K (prog := X.prog) (w := X.w) I3.kIn D.at_ D.lit
  refine call_meetsIn PySem.F.slot_dict_get hmap.typeIs PySem.F.entry_dict_get (PySem.F.args_dict_get_3 _ _ _) (meets_dict_get_default (strKind X.prog X.w) a (PySem.strKind_is X.prog X.w z t) D.low _) ⟨_, hmap, ?_⟩
  obtain ⟨f1, f2⟩ := tab_find (z := z) ht
  cases hl : lookT tab z with
  | none =>
    rw [f1 hl]
    exact ⟨y2, H3, I3.tok _, ry2, q1 hl⟩
  | some u =>
    obtain ⟨val, v, e1, e2, e3⟩ := f2 u hl
    rw [e1]
    exact ⟨v, H3, I3.tok _, e2, q2 u hl v (fun w => e3 w _ _ _)⟩
theorem se_wget2 {x : Str} {p apos cpos : Pos} {a : Addr} {tab : List (Str × U)} {e e2 : Expr} {f g : FE} (D : KTab X.K X.w a tab) (hg : Gl X x) (hm : X.mg x = some (.ref a)) (he : SimE X Wx e f) (he2 : SimE X Wx e2 g)
    (m : M2 X (.Name x p) "get" apos e e2 cpos := by exact ⟨rfl, rfl, rfl, rfl⟩) (hd : (x == ("__debug__" : Str)) = false := by decide) : SimE X Wx (.Call (.Attribute (.Name x p) "get" apos) [e, e2] [] cpos) (fWget2 tab f g) := by
  obtain ⟨t, pe, he⟩ := he.out
  obtain ⟨t2, pe2, he2⟩ := he2.out
  refine SimE.mk (pe_wget2 D hg hm pe pe2 m hd) (fun w d σ Q s e h => ?_)
  refine he w d σ _ s e ((Pst.of_bind h).mono (fun u S1 h1 w1 v eS st s1 r => ?_) fun _ _ q => q)
  subst eS
  refine he2 w1 d σ _ s1 (e.ext st.x s) ((Pst.of_bind h1).mono (fun u2 S2 h2 w2 v2 eS2 st2 s2 r2 => ?_) fun _ _ q => q.up st)
  cases r with
  | str z =>
    refine ⟨z, rfl, fun hl => ?_, fun u hl v hv => ?_⟩
    · have h2 : OkE X w Q ((lookT tab z).getD u2) S2 := h2
      rw [hl] at h2
      exact h2 w2 v2 eS2 (st.trans st2) s2 r2
    · have h2 : OkE X w Q ((lookT tab z).getD u2) S2 := h2
      rw [hl] at h2
      exact h2 w2 v eS2 (st.trans st2) s2 (hv w2)
  | _ => exact h2.elim
end
end DL
namespace DL
open PySem PySem.Spec PyProof.Rows L2
section
variable {X : Cx} {Wx : WX} {pos : Pos}
end
end DL
set_option maxHeartbeats 1000000
namespace DL
open PySem PySem.Spec L2
section
variable {X : Cx} {Wx : WX}
end
end DL
namespace DL
open PySem PySem.Spec L2
section
variable {X : Cx}
end
end DL
namespace DL
open PySem PySem.Spec PyProof.Rows L2
section
variable {X : Cx} {Wx : WX}
end
end DL
namespace DL
open PySem PySem.Spec L2
section
variable {X : Cx} {Wx : WX}
theorem op_mulS0 : OpR X (binaryOp .Mult) (fun x y H Q => ∃ (a : Str), x = .str a ∧ y = .int 0 ∧ Q (.str Str.empty) H) := by
  intro pins s σ H x y v u Q I rx ry h
  obtain ⟨a, rfl, rfl, q⟩ := h
  obtain ⟨t, rfl⟩ := rx
  obtain ⟨t', rfl⟩ := ry
  refine PySem.P.mul_str (by decide) (fun h _ => absurd (by decide) h) (fun h _ => absurd (by decide) h) ?_
  rw [if_pos (by decide)]
  exact ⟨by decide, .str Str.empty, H, I.tok _, ⟨_, rfl⟩, q⟩
def mulS0 (x y : U) (S : Sto) : R U := match x, y with
  | .str _, .int 0 => .ok (.str Str.empty) S
  | _, _ => .bad
theorem os_mulS0 : OpSim X (binaryOp .Mult) mulS0 := by
  refine ⟨_, op_mulS0, fun w x y v v' Q s rx ry h => ?_⟩
  unfold mulS0 at h
  split at h
  · cases rx
    cases ry
    exact ⟨_, rfl, rfl, OkE.here h s (.str _)⟩
  · exact h.elim
def mulZU (x y : U) (S : Sto) : R U := alt (mulS0 x y S) (mulAU x y S)
theorem os_mulZ : OpSim X (binaryOp .Mult) mulZU := os_mulS0.alt os_mulA
theorem noX_mulZ (x y : U) (S : Sto) : noX (mulZU x y S) := noX_alt (by unfold mulS0; split <;> trivial) (noX_mulA x y S)
end
end DL
set_option maxHeartbeats 1000000
namespace DL
open PySem PySem.Spec L2
theorem thnT {α : Type} {M : Model} {A : Around} {t : Sem α} {Q Q' : α → Shared → Prop} {E : Value → Shared → Prop} {s : Shared} {n : Nat} (hn : n ≤ s.toks) (h : wpAny M A t Q E s) (k : ∀ a s1, Q a s1 → n ≤ s1.toks → Q' a s1) : wpAny M A t Q' E s :=
  wpAny_mono (wpAny_toks_of hn h) (fun a s1 q => k a s1 q.2 q.1) fun _ _ q => q.2
def SimET (X : Cx) (Wx : WX) (e : Expr) (f : FE) : Prop := PET X e (tE X Wx f)
def SimST (X : Cx) (Wx : WX) (st : Stmt) (f : FS) : Prop := PST X st (tS X Wx f)
def SimBT (X : Cx) (Wx : WX) (sts : List Stmt) (f : FS) : Prop := PSsT X sts (tS X Wx f)
section
variable {X : Cx} {Wx : WX} {e : Expr} {st : Stmt} {rest : List Stmt} {pos : Pos}
theorem SimS.tk {f : FS} (h : SimS X Wx st f) : SimST X Wx st f := PST.of h
theorem SimB.tk {f : FS} (h : SimB X Wx rest f) : SimBT X Wx rest f := PSsT.of h
theorem SimE.tk {f : FE} (h : SimE X Wx e f) : SimET X Wx e f := fun pins s σ H Q _ I q => h.run pins s σ H Q I q
theorem sbt_cons {f g : FS} (h1 : SimST X Wx st f) (h2 : SimBT X Wx rest g) : SimBT X Wx (st :: rest) (fSeq f g) := by
  refine fun pins s σ H D one I ⟨w, d, z, sr, er, h⟩ => psst_cons h1 h2 pins s σ H D one I ⟨w, d, z, sr, er, ?_⟩
  unfold fSeq at h
  cases hf : f d w.S with
  | ok fl S1 =>
    rw [hf] at h
    cases fl with
    | nx d1 =>
      intro w1 eS st s1 σ1 e1
      subst eS
      exact ⟨w1, d1, rfl, s1, e1, Pst.mono h (fun _ _ q => q.up st) fun _ _ q => q⟩
    | rt u => exact h
    | bk d1 => exact h
    | ct d1 => exact h
    | ex x d1 => exact h
  | exc x S => rw [hf] at h; exact h
  | bad => rw [hf] at h; exact h
theorem sbt_one {f : FS} (h : SimST X Wx st f) : SimBT X Wx [st] f := fun pins s σ H D one I ⟨w, d, z, sr, er, q⟩ => psst_cons h (PSsT.of pss_nil) pins s σ H D one I ⟨w, d, z, sr, er, q⟩
theorem sst_set (i : Nat) {x : Str} {f : FE} {p1 : Pos} (nd : X.N.Nodup) (hi : X.N[i]? = some x) (hx : Loc X.env.scope x) (he : SimET X Wx e f) (hs : swapsWith e (some (.Name x p1)) pos.line X.env = pure false := by rfl)
    (hf : X.fn x = true ∨ X.env.scope.names.lookup x = some .local := by first | exact .inl rfl | exact .inr rfl | assumption) : SimST X Wx (.Assign [.Name x p1] e pos) (fSet i f) := by
  rintro pins s σ H D one I ⟨w, d, rfl, sr, er, h⟩
  refine wpAny_Assign_Name (thn (he pins s σ _ (fun v H1 => D.nx (σ.set i (some v)) H1) one I ⟨w, d, rfl, sr, er, ?_⟩) fun v s1 ⟨y, H1, J, ry, q⟩ => store_ok J nd hi hx ry (fun s2 J2 => ⟨_, H1, J2, q⟩) hf) hs
  exact (toS_post sr er h).mono (fun u S1 k w1 v z st s1 r => k w1 z st s1 _ ((er.ext st.x sr).set i r)) fun _ _ q => q
def iRngC (k : Int) : TI := fun σ H R => (-(2 ^ 62) ≤ k ∧ k < 2 ^ 62) ∧ R (Itr 0 k.toNat) H
theorem range_tk {tg : Expr} {k : Int} {j : Nat} {p c : Pos} (hg : Gl X "range") (hm : X.mg "range" = none) (pins : List (Addr × Obj)) (s : Shared) (σ : L2.St) (H : Hp) (R : It → Hp → Prop) (I : Inv X pins σ H s) (h : iRngC k σ H R) :
    wpAny (model X.prog X.w) X.A (eval (.Call (.Name "range" p) [.Constant (.int k) j c] [] pos) X.env) (fun v s1 => 1 ≤ s1.toks ∧ wpAny (model X.prog X.w) X.A (pyIter v) (PIE X pins σ tg R) X.xe s1) X.xe s := by
  obtain ⟨⟨lo, hi⟩, q⟩ := h
  refine PyProof.Rows.Call_ (ld_blt I hg hm PyProof.Rows.boot_range (PyProof.Rows.callWith_type1 (Calls.spliced_cons (x := eval (.Constant (.int k) j c) X.env) (wpAny_Constant_int (Calls.spliced_nil (call_range_1 ⟨?_, range_it (I.tok _) (by omega) (by omega) lo hi (by simpa using q)⟩)))) rfl rfl))
  show 1 ≤ s.toks + 1 + 1 + 1
  omega
end
section
variable {X : Cx} {Wx : WX} {tg iter : Expr} {body : List Stmt} {pos : Pos}
theorem ps_forT {wi : TI} {g : TG} {tb : TS} (own : PassesOwn (model X.prog X.w) X.A X.env X.xe) (hc : X.calm = true)
    (hi : ∀ (pins : List (Addr × Obj)) (s : Shared) (σ : L2.St) (H : Hp) (R : It → Hp → Prop), Inv X pins σ H s → wi σ H R → wpAny (model X.prog X.w) X.A (eval iter X.env) (fun v s1 => 1 ≤ s1.toks ∧ wpAny (model X.prog X.w) X.A (pyIter v) (PIE X pins σ tg R) X.xe s1) X.xe s)
    (hg : PG X tg g) (hb : PSsT X body tb) (hs : ∀ x, foldedSetIterable iter X.env x = pure x := by intro _; rfl) : PS X (.For tg iter body [] pos) (tFor wi g tb) := by
  refine ⟨fun pins s σ H D I h => wpAny_For (thn (hi pins s σ H _ I h) fun v s1 h1 => thnT h1.1 h1.2 fun itv s2 h2 one => ?_) hs⟩
  obtain ⟨it, fp, tn, J, H2, rfl, I2, T, st2, f2, W, ⟨m0, w0⟩, turn⟩ := h2
  have keepF : ∀ {H' : Hp}, (∀ b ∈ fp, H' b = none) → ∀ b ∈ fp, FpOk X pins H' b := fun no b hb => ⟨no b hb, (f2 b hb).2⟩
  refine codeAny_forLoop_any (fun n s' => 1 ≤ s'.toks ∧ ∃ i σ' H', Inv X pins σ' H' s' ∧ tn i s'.heap ∧ (∀ b ∈ fp, H' b = none) ∧ W i n σ' H') ?_ m0 ⟨one, 0, σ, H2, I2, st2, fun b hb => (f2 b hb).1, w0⟩
  rintro n s3 ⟨one3, i, σ3, H3, I3, st3, no3, w3⟩
  rcases turn i n σ3 H3 w3 with ⟨stop, qn⟩ | ⟨go, N, hN, step⟩
  · refine wpAny_passesOwn own (thn (T.done X rfl rfl rfl hc i pins s3 σ3 H3 X.xe I3 (keepF no3) st3 stop) fun r s4 z => ?_)
    obtain ⟨rfl, I4⟩ := z
    exact wpAny_execs_nil ⟨σ3, H3, I4, qn⟩
  · refine wpAny_passesOwn own (thnT one3 (T.item X rfl rfl rfl hc i pins s3 σ3 H3 X.xe I3 (keepF no3) st3 go) fun r s4 z one4 => ?_)
    obtain ⟨u, rfl, h4⟩ := z
    refine wpAny_passesOwn own (thnT one4 h4 fun _ s5 z one5 => ?_)
    obtain ⟨x, H5, I5, r5, y5, st5, no5⟩ := z
    have J5 := I5.pinned (keepF no5) (T.obj _ _ st5)
    refine wpAny_passesOwn own (thnT one5 (hg.run _ s5 σ3 H5 x u _ J5 r5 (step x H5 y5)) fun _ s6 z one6 => ?_)
    obtain ⟨σ6, H6, I6, q6⟩ := z
    refine wpAny_passesOwn own (thnT one6 (hb _ s6 σ6 H6 _ one6 I6 q6) fun f s7 q7 one7 => ?_)
    have again : ∀ {σ7 : L2.St} {H7 : Hp}, Inv X (pins ++ pinsAt fp s5.heap) σ7 H7 s7 → N σ7 H7 → ∃ m, m < n ∧ 1 ≤ s7.toks ∧ ∃ i σ' H', Inv X pins σ' H' s7 ∧ tn i s7.heap ∧ (∀ b ∈ fp, H' b = none) ∧ W i m σ' H' := fun {σ7 H7} I7 n7 => by
      obtain ⟨m', hm, w7⟩ := hN σ7 H7 n7
      have pinF : ∀ {b : Addr} {o : Obj}, b ∈ fp → s5.heap.get? b = some o → s7.heap.get? b = some o ∧ H7 b = none := fun {b o} hb z => by
        have := I7.pin (b, o) (List.mem_append_right _ (List.mem_append_right _ (mem_pinsAt hb z)))
        exact ⟨this.1, this.2.1⟩
      exact ⟨m', hm, one7, i + 1, σ7, H7, I7.unpinned, T.keep _ _ _ st5 fun b hb o z => (pinF hb z).1, fun b hb => by
        obtain ⟨o, z, _⟩ := T.obj _ _ st5 b hb
        exact (pinF hb z).2, w7⟩
    cases f with
    | next => exact let ⟨_, _, I7, n7⟩ := q7; again I7 n7
    | cont => exact let ⟨_, _, I7, n7⟩ := q7; again I7 n7
    | brk => exact let ⟨σ7, H7, I7, d7⟩ := q7; ⟨σ7, H7, I7.unpinned, d7⟩
    | ret v => exact let ⟨x7, σ7, H7, I7, r7, d7⟩ := q7; ⟨x7, σ7, H7, I7.unpinned, r7, d7⟩
theorem ss_forT {k : Int} {j : Nat} {p c p2 : Pos} {is : List Nat} {g : U → En → Option En} {f : FS} (own : PassesOwn (model X.prog X.w) X.A X.env X.xe) (hc : X.calm = true) (hgl : Gl X "range") (hm : X.mg "range" = none) (hg : SimG X tg is g) (hb : SimBT X Wx body f)
    (hs : ∀ x, foldedSetIterable (.Call (.Name "range" p) [.Constant (.int k) j c] [] p2) X.env x = pure x := by intro _; rfl) : SimS X Wx (.For tg (.Call (.Name "range" p) [.Constant (.int k) j c] [] p2) body [] pos) (fFor (aRng1 (aCons (fC (.int k)) aNil)) g f) := by
  obtain ⟨tg', pg, hg⟩ := hg.out
  refine SimS.mk (ps_forT own hc (range_tk hgl hm) pg hb hs) (fun w d σ D s e h => ?_)
  have h := toS_post (D := D) (Wx := Wx) s e h
  show iRngC k σ w.H _
  have h : Pst (guard (decide (-(2 ^ 62) ≤ k) && decide (k < 2 ^ 62)) (R.ok (rngU 0 1 k.toNat) w.S)) _ _ := h
  obtain ⟨hl, h1⟩ := guard_post h
  rw [Bool.and_eq_true] at hl
  refine ⟨⟨of_decide_eq_true hl.1, of_decide_eq_true hl.2⟩, ?_⟩
  have it : ItSim (KMof X) w (Itr 0 k.toNat) (rngU 0 1 k.toNat) := it_range 0 _
  generalize rngU 0 1 k.toNat = us at h1 it
  generalize Itr 0 k.toNat = J at it
  refine ⟨fun i m σ' H => ∃ (w' : Wd) (d' : En), w'.H = H ∧ Stp w w' ∧ SR (KMof X) w' ∧ ER (KMof X) w' d' σ' ∧ m = us.length - i ∧ i ≤ us.length ∧ Pst (loopF g f (us.drop i) d' w'.S) (OkS X Wx w D) (fun _ _ => False),
    ⟨us.length, w, d, rfl, Stp.refl w, s, e, by simp, Nat.zero_le _, h1⟩, ?_⟩
  rintro i m σ' H ⟨w', d', rfl, st', s', e', rfl, hil, q⟩
  obtain ⟨it1, it2⟩ := it w' i st'.x s'
  by_cases hlt : i < us.length
  · rw [drop_at hlt] at q
    obtain ⟨go, yl⟩ := it1 us[i] (List.getElem?_eq_getElem hlt)
    refine .inr ⟨go, fun σ2 H2 => ∃ (w2 : Wd) (d2 : En), w2.H = H2 ∧ Stp w w2 ∧ SR (KMof X) w2 ∧ ER (KMof X) w2 d2 σ2 ∧ Pst (loopF g f (us.drop (i + 1)) d2 w2.S) (OkS X Wx w D) (fun _ _ => False), fun σ2 H2 ⟨w2, d2, e1, e2, e3, e4, e5⟩ => ⟨us.length - (i + 1), by omega, w2, d2, e1, e2, e3, e4, rfl, by omega, e5⟩, fun x H' y => ?_⟩
    obtain ⟨w2, rfl, eS2, st2, s2, rx⟩ := yl x H' y
    rw [← eS2] at q
    unfold loopF at q
    split at q
    · exact q.elim
    · rename_i d1 hd1
      refine hg w2 us[i] x d' d1 σ' _ s2 (e'.ext st2.x s') rx hd1 fun σ1 e1 _ => ?_
      refine ⟨w2, d1, rfl, s2, e1, ?_⟩
      have st02 := st'.trans st2
      split at q
      · rename_i d2 S2 hf
        rw [hf]
        exact fun w3 eS3 st3 s3 σ3 e3 => ⟨w3, d2, rfl, st02.trans st3, s3, e3, by rw [eS3]; exact q⟩
      · rename_i d2 S2 hf
        rw [hf]
        exact fun w3 eS3 st3 s3 σ3 e3 => ⟨w3, d2, rfl, st02.trans st3, s3, e3, by rw [eS3]; exact q⟩
      · rename_i d2 S2 hf
        rw [hf]
        exact fun w3 eS3 st3 s3 σ3 e3 => q w3 eS3 (st02.trans st3) s3 σ3 e3
      · rename_i hn1 hn2 hn3
        cases hf : f d1 w2.S with
        | ok fl S2 =>
          rw [hf] at q
          cases fl with
          | nx d2 => exact absurd hf (hn1 d2 S2)
          | ct d2 => exact absurd hf (hn2 d2 S2)
          | bk d2 => exact absurd hf (hn3 d2 S2)
          | rt u => exact fun w3 eS3 st3 s3 v r => q w3 eS3 (st02.trans st3) s3 v r
          | ex x d2 => exact fun w3 eS3 st3 s3 σ3 e3 cls dd xr => q w3 eS3 (st02.trans st3) s3 σ3 e3 cls dd xr
        | exc x S => rw [hf] at q; exact q
        | bad => rw [hf] at q; exact q
  · have e0 : i = us.length := by omega
    subst e0
    rw [List.drop_length] at q
    exact .inl ⟨it2 (Nat.le_refl _), q w' rfl st' s' σ' e'⟩
end
section
variable {X : Cx} {Wx : WX} {o l idx : Expr} {pos apos sp c : Pos} {y : Str} {zs : List Str} {j : Nat}
def LitL (X : Cx) (l : Expr) (zs : List Str) : Prop := ∀ (pins : List (Addr × Obj)) (s : Shared) (σ : L2.St) (H : Hp) (Q : Value → Shared → Prop) (E : Value → Shared → Prop), Inv X pins σ H s →
  (∀ (s1 : Shared) (a : Addr) (ob : Obj) (its : Array Value) (n : Nat), H a = none → s.toks ≤ s1.toks → Inv X pins σ (upd H a (.frz ob (.lst (zs.map V.str)))) s1 → ob.cls = .type "list" → ob.data = .seq its n → (∀ (i : Nat) (z : Str), zs[i]? = some z → ∃ t : Tok, its[i]? = some (Value.str z t) ∧ s.toks ≤ t) → Q (.ref a) s1) →
    wpAny (model X.prog X.w) X.A (eval l X.env) Q E s
theorem lit_two {z1 z2 : Str} {j1 j2 : Nat} {c1 c2 : Pos} : LitL X (.List [.Constant (.str z1) j1 c1, .Constant (.str z2) j2 c2] pos) [z1, z2] := by
  intro pins s σ H Q E I fin
  refine wpAny_List_spliced (show wpAny _ _ (spliced [(false, eval (.Constant (.str z1) j1 c1) X.env), (false, eval (.Constant (.str z2) j2 c2) X.env)]) _ _ s from Calls.spliced_cons (Calls.Constant_str (Calls.spliced_cons (Calls.Constant_str (Calls.spliced_nil ⟨show 2 ≤ sizeLine by decide, ?_⟩)))))
  refine fin _ s.heap.objs.size ⟨.type "list", none, .seq #[Value.str z1 s.toks, Value.str z2 (s.toks + 1)] 0, #[]⟩ _ 0 (I.hok.fresh (Nat.le_refl _)) (show s.toks ≤ s.toks + 1 + 1 by omega) ?_ rfl rfl fun i z hz => ?_
  · exact I.laid (t' := s.toks + 1 + 1) (fun b u q => Heap.get?_push_of_some _ q) (Nat.le_refl _) ⟨Heap.get?_push_size _ rfl, (by decide : (2 : Nat) ≤ sizeLine), [Value.str z1 s.toks, Value.str z2 (s.toks + 1)], 0, .cons ⟨_, rfl⟩ (.cons ⟨_, rfl⟩ .nil), Heap.get?_push_size _ rfl⟩
  · match i, hz with
    | 0, hz => cases hz; exact ⟨_, rfl, Nat.le_refl _⟩
    | 1, hz => cases hz; exact ⟨_, rfl, Nat.le_succ _⟩
theorem lit_three {z1 z2 z3 : Str} {j1 j2 j3 : Nat} {c1 c2 c3 : Pos} : LitL X (.List [.Constant (.str z1) j1 c1, .Constant (.str z2) j2 c2, .Constant (.str z3) j3 c3] pos) [z1, z2, z3] := by
  intro pins s σ H Q E I fin
  refine wpAny_List_spliced (show wpAny _ _ (spliced [(false, eval (.Constant (.str z1) j1 c1) X.env), (false, eval (.Constant (.str z2) j2 c2) X.env), (false, eval (.Constant (.str z3) j3 c3) X.env)]) _ _ s from Calls.spliced_cons (Calls.Constant_str (Calls.spliced_cons (Calls.Constant_str (Calls.spliced_cons (Calls.Constant_str (Calls.spliced_nil ⟨show 3 ≤ sizeLine by decide, ?_⟩)))))))
  refine fin _ s.heap.objs.size ⟨.type "list", none, .seq #[Value.str z1 s.toks, Value.str z2 (s.toks + 1), Value.str z3 (s.toks + 1 + 1)] 0, #[]⟩ _ 0 (I.hok.fresh (Nat.le_refl _)) (show s.toks ≤ s.toks + 1 + 1 + 1 by omega) ?_ rfl rfl fun i z hz => ?_
  · exact I.laid (t' := s.toks + 1 + 1 + 1) (fun b u q => Heap.get?_push_of_some _ q) (Nat.le_refl _) ⟨Heap.get?_push_size _ rfl, (by decide : (3 : Nat) ≤ sizeLine), [Value.str z1 s.toks, Value.str z2 (s.toks + 1), Value.str z3 (s.toks + 1 + 1)], 0, .cons ⟨_, rfl⟩ (.cons ⟨_, rfl⟩ (.cons ⟨_, rfl⟩ .nil)), Heap.get?_push_size _ rfl⟩
  · match i, hz with
    | 0, hz => cases hz; exact ⟨_, rfl, Nat.le_refl _⟩
    | 1, hz => cases hz; exact ⟨_, rfl, Nat.le_succ _⟩
    | 2, hz => cases hz; exact ⟨_, rfl, by omega⟩
def tReplS (to ti : TE) (y : Str) (zs : List Str) : TE := fun σ H Q => to σ H fun v H1 => ∃ x, v = .str x ∧ ∀ a ob, H1 a = none → ti σ (upd H1 a (.frz ob (.lst (zs.map V.str)))) fun u H2 => ∃ (i : Int) (z : Str), u = .int i ∧ 0 ≤ i ∧ i < 2 ^ 63 ∧ zs[i.toNat]? = some z ∧ H2 a = some (.frz ob (.lst (zs.map V.str))) ∧ x.length + (x.length + 1) * z.length ≤ 16777216 ∧ Q (.str (Txt.replace x y z)) H2
theorem pet_replS {to ti : TE} (ho : PE X o to) (hl : LitL X l zs) (hi : PE X idx ti) (nb : PySem.W.nsIn X.K cStatics sharingNotToldKey = some none) (plain : PlainIx idx)
    (hst : starEach [.Constant (.str y) j c, .Subscript l idx sp] X.env = [(false, eval (.Constant (.str y) j c) X.env), (false, eval (.Subscript l idx sp) X.env)] := by rfl)
    (hbase : attributeBase o "replace" X.env (eval o X.env) = eval o X.env := by rfl) (line : (apos.endLine == pos.line) = true := by rfl) :
    PET X (.Call (.Attribute o "replace" apos) [.Constant (.str y) j c, .Subscript l idx sp] [] pos) (tReplS to ti y zs) := by
  intro pins s σ H Q one I h
  refine PySem.Call_method2 hbase hst line (thnT one (ho.run pins s σ H _ I h) fun v s1 z one1 => ?_)
  obtain ⟨v', H1, I1, rx, x, rfl, q⟩ := z
  obtain ⟨tx, rfl⟩ := rx
  refine ⟨"str", _, PySem.F.plainAttrs_str, PySem.F.slot_str_replace, PySem.F.type_str_replace, typeIs_str _ _ _, (fun _ z => nomatch z), Calls.callWith_builtin rfl (Calls.evalArgs_plain (Calls.spliced_cons (Calls.Constant_str (Calls.spliced_cons (PyProof.Rows.Subscript_ ?_)))))⟩
  refine hl pins { s1 with toks := s1.toks + 1 } σ H1 _ _ (I1.tok _) fun s2 a ob its n free up I2 o1 o2 tks => ?_
  refine thnT (n := 1) (by have : s1.toks + 1 ≤ s2.toks := up; omega) (hi.run pins s2 σ _ _ I2 (q a ob free)) fun u s3 z one3 => ?_
  obtain ⟨u', H3, I3, ru, i, zz, rfl, i0, i1, hz, there, hb, qq⟩ := z
  obtain ⟨ti, rfl⟩ := ru
  obtain ⟨t, hit, low⟩ := tks _ _ hz
  obtain ⟨at_, -⟩ := I3.hok a _ there
  have isL : s3.heap.IsList a its := ⟨ob, at_, o1, n, o2⟩
  have low : s1.toks + 1 ≤ t := low
  obtain ⟨mc, nm, -⟩ := I3.nolimit
  refine PyProof.Rows.item_listR isL i0 i1 hit (Calls.spliced_nil ?_) (plain _ _)
  exact PySem.SC.replaceA (Nat.ne_of_gt one1) (Nat.ne_of_gt (Nat.lt_of_lt_of_le (Nat.succ_pos _) low)) (Nat.ne_of_lt low) hb (fun t' k => ⟨V.str (Txt.replace x y zz), H3, I3.tok k, ⟨t', rfl⟩, qq⟩) ⟨mc, nm, PySem.W.ns_none_of I3.kIn nm nb⟩
def fReplS (y : Str) (zs : List Str) (fo fi : FE) : FE := fun d S => (fo d S).bind fun v S1 => match v with
  | .str x => (fi d S1).bind fun u S2 => match u with
    | .int i => match zs[i.toNat]? with
      | some z => guard (decide (0 ≤ i) && (decide (i < 2 ^ 63) && decide (x.length + (x.length + 1) * z.length ≤ 16777216))) (.ok (.str (Txt.replace x y z)) S2)
      | none => .bad
    | _ => .bad
  | _ => .bad
theorem se_replS {fo fi : FE} (ho : SimE X Wx o fo) (hl : LitL X l zs) (hi : SimE X Wx idx fi) (nb : PySem.W.nsIn X.K cStatics sharingNotToldKey = some none) (plain : PlainIx idx)
    (hst : starEach [.Constant (.str y) j c, .Subscript l idx sp] X.env = [(false, eval (.Constant (.str y) j c) X.env), (false, eval (.Subscript l idx sp) X.env)] := by rfl)
    (hbase : attributeBase o "replace" X.env (eval o X.env) = eval o X.env := by rfl) (line : (apos.endLine == pos.line) = true := by rfl) :
    SimET X Wx (.Call (.Attribute o "replace" apos) [.Constant (.str y) j c, .Subscript l idx sp] [] pos) (fReplS y zs fo fi) := by
  obtain ⟨to, po, ho⟩ := ho.out
  obtain ⟨ti, pi, hi⟩ := hi.out
  rintro pins s σ H Q one I ⟨w, d, rfl, sr, er, h⟩
  refine pet_replS po hl pi nb plain hst hbase line pins s σ w.H Q one I ?_
  refine ho w d σ _ sr er ((Pst.of_bind h).mono (fun v S1 h1 w1 v' eS st s1 r => ?_) fun _ _ q => q)
  subst eS
  split at h1
  · rename_i x
    cases r
    refine ⟨x, rfl, fun a ob free => ?_⟩
    have st1 := Stp.new s1 (o := .frz ob (.lst (zs.map V.str))) free
    have s2 := s1.new (o := .frz ob (.lst (zs.map V.str))) free
    refine hi (w1.new a (.frz ob (.lst (zs.map V.str)))) d σ _ s2 (er.ext (st.trans st1).x sr) ((Pst.of_bind h1).mono (fun u S2 h2 w3 u' eS3 st3 s3 ru => ?_) fun _ _ q => q.up (st.trans st1))
    subst eS3
    split at h2
    · rename_i i
      cases ru
      split at h2
      · rename_i z hz
        obtain ⟨hq, h3⟩ := guard_post h2
        rw [Bool.and_eq_true, Bool.and_eq_true] at hq
        refine ⟨i, z, rfl, of_decide_eq_true hq.1, of_decide_eq_true hq.2.1, hz, st3.x.keep a _ upd_same (s2.nofrz upd_same), of_decide_eq_true hq.2.2, ?_⟩
        exact h3 w3 _ rfl ((st.trans st1).trans st3) s3 (.str _)
      · exact h2.elim
    · exact h2.elim
  · exact h1.elim
end
end DL
namespace Law
open PySem PySem.Spec L2 DL
noncomputable section
def topS (i : Nat) : Stmt := PySem.Challenge.pw_middlesay_k05_sayings_as_texts.main.body.getD i (.Pass ⟨0, 0, 0, 0⟩)
abbrev s_is_word : Stmt := topS 9
abbrev s_parts_in : Stmt := topS 10
abbrev s_is_saying : Stmt := topS 11
abbrev s_in_brackets : Stmt := topS 17
abbrev s_show_saying : Stmt := topS 18
abbrev s_pieces_of : Stmt := topS 19
abbrev s_read_saying : Stmt := topS 21
abbrev s_law_tape : Stmt := topS 23
abbrev s_law_draw : Stmt := topS 24
abbrev s_law_words : Stmt := topS 25
abbrev s_law_saying : Stmt := topS 26
abbrev s_law_rank : Stmt := topS 27
abbrev s_law_text : Stmt := topS 28
abbrev s_law_loose : Stmt := topS 29
abbrev s_law : Stmt := topS 30
abbrev s_Reader___init__ : Stmt := clsM (topS 20) 0
abbrev s_Reader_now : Stmt := clsM (topS 20) 1
abbrev s_Reader_taken : Stmt := clsM (topS 20) 2
abbrev s_Reader_refuse : Stmt := clsM (topS 20) 3
abbrev s_Reader_single : Stmt := clsM (topS 20) 4
abbrev s_Reader_denial : Stmt := clsM (topS 20) 5
abbrev s_Reader_bracketed : Stmt := clsM (topS 20) 6
abbrev s_Reader_of_rank : Stmt := clsM (topS 20) 7
abbrev n_is_word : List Str := ["thing", "sign"]
theorem sc_is_word : FnScope n_is_word ["thing"] (defScope s_is_word) := ⟨rfl, rfl, rfl, by decide +kernel, rfl, by decide +kernel, by decide +kernel⟩
abbrev n_parts_in : List Str := ["thing", "deep", "many", "found", "part"]
theorem sc_parts_in : FnScope n_parts_in ["thing", "deep"] (defScope s_parts_in) := ⟨rfl, rfl, rfl, by decide +kernel, rfl, by decide +kernel, by decide +kernel⟩
abbrev n_is_saying : List Str := ["thing"]
theorem sc_is_saying : FnScope n_is_saying ["thing"] (defScope s_is_saying) := ⟨rfl, rfl, rfl, by decide +kernel, rfl, by decide +kernel, by decide +kernel⟩
abbrev n_in_brackets : List Str := ["text", "needed"]
theorem sc_in_brackets : FnScope n_in_brackets ["text", "needed"] (defScope s_in_brackets) := ⟨rfl, rfl, rfl, by decide +kernel, rfl, by decide +kernel, by decide +kernel⟩
abbrev n_show_saying : List Str := ["saying", "word", "rank", "left", "right", "first"]
theorem sc_show_saying : FnScope n_show_saying ["saying"] (defScope s_show_saying) := ⟨rfl, rfl, rfl, by decide +kernel, rfl, by decide +kernel, by decide +kernel⟩
abbrev n_pieces_of : List Str := ["text", "found", "word", "sign", "one"]
theorem sc_pieces_of : FnScope n_pieces_of ["text"] (defScope s_pieces_of) := ⟨rfl, rfl, rfl, by decide +kernel, rfl, by decide +kernel, by decide +kernel⟩
abbrev n_read_saying : List Str := ["text", "pieces", "reader", "found"]
theorem sc_read_saying : FnScope n_read_saying ["text"] (defScope s_read_saying) := ⟨rfl, rfl, rfl, by decide +kernel, rfl, by decide +kernel, by decide +kernel⟩
abbrev n_law_tape : List Str := ["_law_script"]
theorem sc_law_tape : FnScope n_law_tape ["_law_script"] (defScope s_law_tape) := ⟨rfl, rfl, rfl, by decide +kernel, rfl, by decide +kernel, by decide +kernel⟩
abbrev n_law_draw : List Str := ["_law_tape_here", "_law_many", "_law_spot", "_law_cells", "_law_cell", "_law_primes", "_law_prime", "_law_seed", "_law_found"]
theorem sc_law_draw : FnScope n_law_draw ["_law_tape_here", "_law_many"] (defScope s_law_draw) := ⟨rfl, rfl, rfl, by decide +kernel, rfl, by decide +kernel, by decide +kernel⟩
abbrev n_law_words : List Str := ["_law_tape_here", "_law_many", "_law_letters", "_law_own", "_law_base", "_law_found", "_law_k", "_law_letter", "_law_some", "_law_word", "_law_more"]
theorem sc_law_words : FnScope n_law_words ["_law_tape_here", "_law_many"] (defScope s_law_words) := ⟨rfl, rfl, rfl, by decide +kernel, rfl, by decide +kernel, by decide +kernel⟩
abbrev n_law_saying : List Str := ["_law_tape_here", "_law_names", "_law_left", "_law_deep", "_law_kind", "_law_word", "_law_first"]
theorem sc_law_saying : FnScope n_law_saying ["_law_tape_here", "_law_names", "_law_left", "_law_deep"] (defScope s_law_saying) := ⟨rfl, rfl, rfl, by decide +kernel, rfl, by decide +kernel, by decide +kernel⟩
abbrev n_law_rank : List Str := ["_law_saying_here"]
theorem sc_law_rank : FnScope n_law_rank ["_law_saying_here"] (defScope s_law_rank) := ⟨rfl, rfl, rfl, by decide +kernel, rfl, by decide +kernel, by decide +kernel⟩
abbrev n_law_text : List Str := ["_law_saying_here", "_law_word", "_law_texts", "_law_ranks", "_law_two", "_law_rank_here", "_law_left", "_law_sign", "_law_part", "_law_text_here"]
theorem sc_law_text : FnScope n_law_text ["_law_saying_here"] (defScope s_law_text) := ⟨rfl, rfl, rfl, by decide +kernel, rfl, by decide +kernel, by decide +kernel⟩
abbrev n_law_loose : List Str := ["_law_tape_here", "_law_saying_here", "_law_word", "_law_text_here", "_law_sign", "_law_texts", "_law_part"]
theorem sc_law_loose : FnScope n_law_loose ["_law_tape_here", "_law_saying_here"] (defScope s_law_loose) := ⟨rfl, rfl, rfl, by decide +kernel, rfl, by decide +kernel, by decide +kernel⟩
abbrev n_law : List Str := ["_law_script", "_law_tape_here", "_law_names", "_law_turn", "_law_saying_here", "_law_text_here", "_law_again", "_law_more", "_law_small"]
theorem sc_law : FnScope n_law ["_law_script"] (defScope s_law) := ⟨rfl, rfl, rfl, by decide +kernel, rfl, by decide +kernel, by decide +kernel⟩
abbrev n_Reader___init__ : List Str := ["self", "pieces"]
theorem sc_Reader___init__ : FnScope n_Reader___init__ ["self", "pieces"] (defScope s_Reader___init__) := ⟨rfl, rfl, rfl, by decide +kernel, rfl, by decide +kernel, by decide +kernel⟩
abbrev n_Reader_now : List Str := ["self"]
theorem sc_Reader_now : FnScope n_Reader_now ["self"] (defScope s_Reader_now) := ⟨rfl, rfl, rfl, by decide +kernel, rfl, by decide +kernel, by decide +kernel⟩
abbrev n_Reader_taken : List Str := ["self", "piece"]
theorem sc_Reader_taken : FnScope n_Reader_taken ["self"] (defScope s_Reader_taken) := ⟨rfl, rfl, rfl, by decide +kernel, rfl, by decide +kernel, by decide +kernel⟩
abbrev n_Reader_refuse : List Str := ["self"]
theorem sc_Reader_refuse : FnScope n_Reader_refuse ["self"] (defScope s_Reader_refuse) := ⟨rfl, rfl, rfl, by decide +kernel, rfl, by decide +kernel, by decide +kernel⟩
abbrev n_Reader_single : List Str := ["self", "piece"]
theorem sc_Reader_single : FnScope n_Reader_single ["self"] (defScope s_Reader_single) := ⟨rfl, rfl, rfl, by decide +kernel, rfl, by decide +kernel, by decide +kernel⟩
abbrev n_Reader_denial : List Str := ["self", "found"]
theorem sc_Reader_denial : FnScope n_Reader_denial ["self"] (defScope s_Reader_denial) := ⟨rfl, rfl, rfl, by decide +kernel, rfl, by decide +kernel, by decide +kernel⟩
abbrev n_Reader_bracketed : List Str := ["self", "found"]
theorem sc_Reader_bracketed : FnScope n_Reader_bracketed ["self"] (defScope s_Reader_bracketed) := ⟨rfl, rfl, rfl, by decide +kernel, rfl, by decide +kernel, by decide +kernel⟩
abbrev n_Reader_of_rank : List Str := ["self", "rank", "found", "word"]
theorem sc_Reader_of_rank : FnScope n_Reader_of_rank ["self", "rank"] (defScope s_Reader_of_rank) := ⟨rfl, rfl, rfl, by decide +kernel, rfl, by decide +kernel, by decide +kernel⟩
abbrev sx_NoText : Stmt := clsInit (topS 1)
theorem scx_NoText : FnScope ["self", "row"] ["self", "row"] (defScope sx_NoText) := ⟨rfl, rfl, rfl, by decide +kernel, rfl, by decide +kernel, by decide +kernel⟩
abbrev i_is_word : Nat := 0
abbrev i_parts_in : Nat := 1
abbrev i_is_saying : Nat := 2
abbrev i_in_brackets : Nat := 3
abbrev i_show_saying : Nat := 4
abbrev i_pieces_of : Nat := 5
abbrev i_read_saying : Nat := 6
abbrev i_law_tape : Nat := 7
abbrev i_law_draw : Nat := 8
abbrev i_law_words : Nat := 9
abbrev i_law_saying : Nat := 10
abbrev i_law_rank : Nat := 11
abbrev i_law_text : Nat := 12
abbrev i_law_loose : Nat := 13
abbrev i_law : Nat := 14
abbrev i_Reader___init__ : Nat := 15
abbrev i_Reader_now : Nat := 16
abbrev i_Reader_taken : Nat := 17
abbrev i_Reader_refuse : Nat := 18
abbrev i_Reader_single : Nat := 19
abbrev i_Reader_denial : Nat := 20
abbrev i_Reader_bracketed : Nat := 21
abbrev i_Reader_of_rank : Nat := 22
def c_DEEPEST : U := (.int 25)
def c_LETTERS : U := (.str "abcdefghijklmnopqrstuvwxyz")
def c_LONGEST_WORD : U := (.int 8)
def t_MANY : List (Str × U) := [(("yes" : Str), (.int 0)), (("no" : Str), (.int 0)), (("not" : Str), (.int 1)), (("and" : Str), (.int 2)), (("or" : Str), (.int 2)), (("if" : Str), (.int 2)), (("same" : Str), (.int 2))]
def c_MOST_OPEN : U := (.int 50)
def c_MOST_PARTS : U := (.int 400)
def t_RANKS : List (Str × U) := [(("same" : Str), (.int 1)), (("if" : Str), (.int 2)), (("or" : Str), (.int 3)), (("and" : Str), (.int 4)), (("not" : Str), (.int 5)), (("yes" : Str), (.int 6)), (("no" : Str), (.int 6)), (("name" : Str), (.int 6))]
def t_SIGNS : List (Str × U) := [(("same" : Str), (.str "is")), (("if" : Str), (.str "gives")), (("or" : Str), (.str "or")), (("and" : Str), (.str "and"))]
def t_WORDS : List (Str × U) := [(("is" : Str), (.str "same")), (("gives" : Str), (.str "if")), (("or" : Str), (.str "or")), (("and" : Str), (.str "and"))]
def c_WORDS_OF_TEXTS : U := (.tup [(.str "not"), (.str "and"), (.str "or"), (.str "gives"), (.str "is"), (.str "yes"), (.str "no")])
def b_is_word (c : Nat → List U → Sto → R U) : FS :=
  (fSeq (fIfS (fOr (fNot (fTru (fA isiC (aCons (fVar 0) (aCons (fC (.ty "str")) aNil))))) (fNot (fB (fCh leU leU (fC (.int 1)) (fA lenC (aCons (fVar 0) aNil)) (fC c_LONGEST_WORD))))) (fRet (fC (.bl false))) fNop)
    (fRet (fAndV (fA allC (aCons (fVal (aComp (aOver strV (fVar 0)) (gN 1) fYes (f2 inU (fVar 1) (fC c_LETTERS)) [1])) aNil)) (f2 ninU (fVar 0) (fC c_WORDS_OF_TEXTS)))))
def b_parts_in (c : Nat → List U → Sto → R U) : FS :=
  (fSeq (fIfS (fOr (fB (f2 gtU (fVar 1) (fC c_DEEPEST))) (fOr (fNot (fTru (fA isiC (aCons (fVar 0) (aCons (fC (.ty "tuple")) aNil))))) (fOr (fB (f2 ltU (fA lenC (aCons (fVar 0) aNil)) (fC (.int 1)))) (fNot (fTru (fA isiC (aCons (f2 ixU (fVar 0) (fC (.int 0))) (aCons (fC (.ty "str")) aNil)))))))) (fRet (f2 addU (fC c_MOST_PARTS) (fC (.int 1)))) fNop)
    (fSeq (fIfS (fB (f2 eqU (f2 ixU (fVar 0) (fC (.int 0))) (fC (.str "name")))) (fRet (fIf (fAnd (fB (f2 eqU (fA lenC (aCons (fVar 0) aNil)) (fC (.int 2)))) (fTru (fCall 1 (c i_is_word) (aCons (f2 ixU (fVar 0) (fC (.int 1))) aNil)))) (fC (.int 1)) (f2 addU (fC c_MOST_PARTS) (fC (.int 1))))) fNop)
    (fSeq (fSet 2 (fWget t_MANY (f2 ixU (fVar 0) (fC (.int 0)))))
    (fSeq (fIfS (fOr (fB (f2 isU (fVar 2) (fC .non))) (fB (f2 neU (fA lenC (aCons (fVar 0) aNil)) (f2 addU (fC (.int 1)) (fVar 2))))) (fRet (f2 addU (fC c_MOST_PARTS) (fC (.int 1)))) fNop)
    (fSeq (fSet 3 (fC (.int 1)))
    (fSeq (fFor (aOver tupV (fSl (fVar 0) (oSome (fC (.int 1))) oNone)) (gN 4) (fSeq (fSet 3 (f2 addU (fVar 3) (fCall 2 (c i_parts_in) (aCons (fVar 4) (aCons (f2 addU (fVar 1) (fC (.int 1))) aNil)))))
    (fIfS (fB (f2 gtU (fVar 3) (fC c_MOST_PARTS))) (fRet (fVar 3)) fNop)))
    (fRet (fVar 3))))))))
def b_is_saying (c : Nat → List U → Sto → R U) : FS :=
  (fRet (f2 leU (fCall 2 (c i_parts_in) (aCons (fVar 0) (aCons (fC (.int 1)) aNil))) (fC c_MOST_PARTS)))
def b_in_brackets (c : Nat → List U → Sto → R U) : FS :=
  (fRet (fIf (fTru (fVar 1)) (f2 addU (f2 addU (fC (.str "(")) (fVar 0)) (fC (.str ")"))) (fVar 0)))
def b_show_saying (c : Nat → List U → Sto → R U) : FS :=
  (fSeq (fPar 1 2 (aCons (f2 ixU (fVar 0) (fC (.int 0))) (aCons (fWix t_RANKS (f2 ixU (fVar 0) (fC (.int 0)))) aNil)))
    (fSeq (fIfS (fB (f2 eqU (fVar 1) (fC (.str "name")))) (fRet (f2 ixU (fVar 0) (fC (.int 1)))) fNop)
    (fSeq (fIfS (fB (f2 inU (fVar 1) (fTup (aCons (fC (.str "yes")) (aCons (fC (.str "no")) aNil))))) (fRet (fVar 1)) fNop)
    (fSeq (fIfS (fB (f2 eqU (fVar 1) (fC (.str "not")))) (fRet (f2 addU (fC (.str "not ")) (fCall 2 (c i_in_brackets) (aCons (fCall 1 (c i_show_saying) (aCons (f2 ixU (fVar 0) (fC (.int 1))) aNil)) (aCons (f2 ltU (fWix t_RANKS (f2 ixU (f2 ixU (fVar 0) (fC (.int 1))) (fC (.int 0)))) (fVar 2)) aNil))))) fNop)
    (fSeq (fPar 3 4 (aCons (fWix t_RANKS (f2 ixU (f2 ixU (fVar 0) (fC (.int 1))) (fC (.int 0)))) (aCons (fWix t_RANKS (f2 ixU (f2 ixU (fVar 0) (fC (.int 2))) (fC (.int 0)))) aNil)))
    (fSeq (fSet 5 (fCall 2 (c i_in_brackets) (aCons (fCall 1 (c i_show_saying) (aCons (f2 ixU (fVar 0) (fC (.int 1))) aNil)) (aCons (fOrV (f2 ltU (fVar 3) (fVar 2)) (fAndV (f2 eqU (fVar 3) (fVar 2)) (f2 ltU (fVar 2) (fC (.int 3))))) aNil))))
    (fRet (f2 addU (f2 addU (f2 addU (f2 addU (fVar 5) (fC (.str " "))) (fWix t_SIGNS (fVar 1))) (fC (.str " "))) (fCall 2 (c i_in_brackets) (aCons (fCall 1 (c i_show_saying) (aCons (f2 ixU (fVar 0) (fC (.int 2))) aNil)) (aCons (f2 leU (fVar 4) (fVar 2)) aNil)))))))))))
def b_pieces_of (c : Nat → List U → Sto → R U) : FS :=
  (fSeq (fSet 1 (fLoc (aLst aNil)))
    (fSeq (fSet 2 (fC (.str "")))
    (fSeq (fFor (aOver strV (f2 addU (fVar 0) (fC (.str " ")))) (gN 3) (fIfS (fB (f2 inU (fVar 3) (fC c_LETTERS))) (fSet 2 (f2 addU (fVar 2) (fVar 3))) (fIfS (fB (f2 inU (fVar 3) (fC (.str " ()")))) (fSeq (fExpr (fM "list" extM (fVar 1) (aCons (fVal (aComp (aOver tupV (fTup (aCons (fVar 2) (aCons (fVar 3) aNil)))) (gN 4) (fB (f2 ninU (fVar 4) (fTup (aCons (fC (.str "")) (aCons (fC (.str " ")) aNil))))) (fVar 4) [4])) aNil)))
    (fSet 2 (fC (.str "")))) (fRet (fC .non)))))
    (fRet (fIce (fVar 1))))))
def b_read_saying (c : Nat → List U → Sto → R U) : FS :=
  (fSeq (fSet 1 (fIf (fTru (fA isiC (aCons (fVar 0) (aCons (fC (.ty "str")) aNil)))) (fCall 1 (c i_pieces_of) (aCons (fVar 0) aNil)) (fC .non)))
    (fSeq (fIfS (fB (f2 isU (fVar 1) (fC .non))) (fRaise "NoText" "row" (aCons (fC (.int 0)) aNil)) fNop)
    (fSeq (fSet 2 (fMake "Reader" 2 (c (i_Reader___init__ + 1000)) (aCons (fVar 1) aNil)))
    (fSeq (fSet 3 (fMeth "Reader" "of_rank" 2 (c i_Reader_of_rank) (fVar 2) (aCons (fC (.int 1)) aNil)))
    (fSeq (fIfS (fOr (fB (f2 neU (fMeth "Reader" "now" 1 (c i_Reader_now) (fVar 2) aNil) (fC (.str "")))) (fNot (fTru (fCall 1 (c i_is_saying) (aCons (fVar 3) aNil))))) (fExpr (fMeth "Reader" "refuse" 1 (c i_Reader_refuse) (fVar 2) aNil)) fNop)
    (fRet (fVar 3)))))))
def b_law_tape (c : Nat → List U → Sto → R U) : FS :=
  (fRet (fDloc (dDisp [((fC (.str "cells")), (fSl (fVar 0) oNone (oSome (fC (.int 63))))), ((fC (.str "spot")), (fC (.int 0))), ((fC (.str "left")), (fC (.int 0)))])))
def b_law_draw (c : Nat → List U → Sto → R U) : FS :=
  (fSeq (fIfS (fB (f2 gtU (f2 ixU (fVar 0) (fC (.str "left"))) (fC (.int 0)))) (fSeq (fSet 8 (f2 modU (f2 ixU (fVar 0) (fC (.str "left"))) (fVar 1)))
    (fSeq (fStore (f2 fdivU (f2 ixU (fVar 0) (fC (.str "left"))) (fVar 1)) (fVar 0) (fC (.str "left")))
    (fRet (fVar 8)))) fNop)
    (fSeq (fSet 2 (f2 ixU (fVar 0) (fC (.str "spot"))))
    (fSeq (fStore (f2 addU (fVar 2) (fC (.int 1))) (fVar 0) (fC (.str "spot")))
    (fSeq (fSet 3 (fOrV (f2 ixU (fVar 0) (fC (.str "cells"))) (fVal (aLst (aCons (fC (.int 0)) aNil)))))
    (fSeq (fSet 4 (f2 ixU (fVar 3) (f2 modU (fVar 2) (fA lenC (aCons (fVar 3) aNil)))))
    (fSeq (fIfS (fAnd (fB (f2 geU (fVar 4) (f2 powU (fC (.int 10)) (fC (.int 18))))) (fB (f2 ltU (fVar 2) (fA lenC (aCons (fVar 3) aNil))))) (fSeq (fStore (f2 fdivU (f2 subU (fVar 4) (f2 powU (fC (.int 10)) (fC (.int 18)))) (fVar 1)) (fVar 0) (fC (.str "left")))
    (fRet (f2 modU (f2 subU (fVar 4) (f2 powU (fC (.int 10)) (fC (.int 18)))) (fVar 1)))) fNop)
    (fSeq (fSet 5 (fVal (aLst (aCons (fC (.int 2147483647)) (aCons (fC (.int 2147483629)) (aCons (fC (.int 2147483587)) (aCons (fC (.int 2147483579)) (aCons (fC (.int 2147483563)) (aCons (fC (.int 2147483549)) (aCons (fC (.int 2147483543)) aNil))))))))))
    (fSeq (fSet 6 (f2 ixU (fVar 5) (f2 modU (fVar 2) (fC (.int 7)))))
    (fSeq (fSet 7 (f2 modU (f2 addU (f2 addU (f2 addU (f2 mulU (f2 modU (fVar 4) (fVar 6)) (fC (.int 48271))) (f2 mulU (f2 mulU (fC (.int 7919)) (fVar 2)) (fVar 2))) (f2 mulU (fC (.int 69621)) (fVar 2))) (fC (.int 1))) (fVar 6)))
    (fSeq (fSet 7 (f2 modU (f2 mulU (fVar 7) (f2 addU (fVar 7) (fC (.int 16807)))) (f2 ixU (fVar 5) (f2 modU (f2 addU (fVar 2) (fC (.int 3))) (fC (.int 7))))))
    (fSeq (fSet 8 (f2 fdivU (f2 modU (f2 mulU (fVar 7) (fVar 7)) (fVar 6)) (fC (.int 64))))
    (fSeq (fIfS (fB (f2 gtU (fVar 1) (f2 powU (fC (.int 10)) (fC (.int 6))))) (fSet 8 (f2 addU (f2 modU (fVar 8) (f2 powU (fC (.int 10)) (fC (.int 6)))) (f2 mulU (f2 powU (fC (.int 10)) (fC (.int 6))) (fCall 2 (c i_law_draw) (aCons (fVar 0) (aCons (f2 addU (f2 fdivU (fVar 1) (f2 powU (fC (.int 10)) (fC (.int 6)))) (fC (.int 1))) aNil)))))) fNop)
    (fRet (f2 modU (fVar 8) (fVar 1)))))))))))))))
def b_law_words (c : Nat → List U → Sto → R U) : FS :=
  (fSeq (fSet 2 (fC (.str "abcdefghijklmnopqrstuvwxyz")))
    (fSeq (fSet 3 (fM "str" splitM (fC (.str "nota andy org isa yesno given noa same")) (aCons (fC (.str " ")) aNil)))
    (fSeq (fSet 4 (fM "str" joinM (fC (.str "")) (aCons (fVal (aComp (aRng1 (aCons (f2 addU (fC (.int 1)) (fCall 2 (c i_law_draw) (aCons (fVar 0) (aCons (fC (.int 6)) aNil)))) aNil)) (gN 6) fYes (f2 ixU (fVar 2) (fCall 2 (c i_law_draw) (aCons (fVar 0) (aCons (fC (.int 26)) aNil)))) [6])) aNil)))
    (fSeq (fSet 5 (fLoc (aLst aNil)))
    (fSeq (fFor (aRng1 (aCons (fVar 1) aNil)) (gN 6) (fSeq (fSet 7 (f2 ixU (fVar 2) (fCall 2 (c i_law_draw) (aCons (fVar 0) (aCons (fC (.int 26)) aNil)))))
    (fSeq (fSet 8 (fVal (aLst (aCons (fVar 4) (aCons (f2 addU (fVar 4) (fVar 7)) (aCons (f2 addU (fVar 7) (fVar 4)) (aCons (fVar 7) (aCons (f2 addU (f2 addU (fVar 4) (fVar 7)) (fVar 7)) (aCons (f2 ixU (fVar 3) (fCall 2 (c i_law_draw) (aCons (fVar 0) (aCons (fC (.int 8)) aNil)))) aNil)))))))))
    (fSeq (fSet 9 (fSl (f2 ixU (fVar 8) (fCall 2 (c i_law_draw) (aCons (fVar 0) (aCons (fC (.int 6)) aNil)))) oNone (oSome (fC (.int 8)))))
    (fSeq (fFor (aOver strV (fVar 2)) (gN 10) (fIfS (fOr (fB (f2 inU (fVar 9) (fVar 5))) (fB (f2 inU (fVar 9) (fTup (aCons (fC (.str "not")) (aCons (fC (.str "and")) (aCons (fC (.str "or")) (aCons (fC (.str "gives")) (aCons (fC (.str "is")) (aCons (fC (.str "yes")) (aCons (fC (.str "no")) aNil))))))))))) (fSet 9 (f2 addU (fSl (fVar 9) oNone (oSome (fC (.int 7)))) (fVar 10))) fNop))
    (fExpr (fM "list" appM (fVar 5) (aCons (fVar 9) aNil))))))))
    (fRet (fIce (fVar 5))))))))
def b_law_saying (c : Nat → List U → Sto → R U) : FS :=
  (fSeq (fSet 4 (fCall 2 (c i_law_draw) (aCons (fVar 0) (aCons (fC (.int 10)) aNil))))
    (fSeq (fIfS (fOr (fB (f2 ltU (f2 ixU (fVar 2) (fC (.int 0))) (fC (.int 2)))) (fOr (fB (f2 ltU (fVar 3) (fC (.int 2)))) (fB (f2 ltU (fVar 4) (fC (.int 3)))))) (fRet (f2 ixU (fVal (aLst (aCons (fTup (aCons (fC (.str "yes")) aNil)) (aCons (fTup (aCons (fC (.str "no")) aNil)) (aCons (fTup (aCons (fC (.str "name")) (aCons (f2 ixU (fVar 1) (fCall 2 (c i_law_draw) (aCons (fVar 0) (aCons (fA lenC (aCons (fVar 1) aNil)) aNil)))) aNil))) aNil))))) (fA minC (aCons (fC (.int 2)) (aCons (fCall 2 (c i_law_draw) (aCons (fVar 0) (aCons (fC (.int 12)) aNil))) aNil))))) fNop)
    (fSeq (fStore (f2 subU (f2 subU (f2 ixU (fVar 2) (fC (.int 0))) (fC (.int 1))) (fA intC (aCons (f2 gtU (fVar 4) (fC (.int 3))) aNil))) (fVar 2) (fC (.int 0)))
    (fSeq (fIfS (fB (f2 eqU (fVar 4) (fC (.int 3)))) (fRet (fTup (aCons (fC (.str "not")) (aCons (fCall 4 (c i_law_saying) (aCons (fVar 0) (aCons (fVar 1) (aCons (fVar 2) (aCons (f2 subU (fVar 3) (fC (.int 1))) aNil))))) aNil)))) fNop)
    (fSeq (fSet 5 (f2 ixU (fVal (aLst (aCons (fC (.str "and")) (aCons (fC (.str "or")) (aCons (fC (.str "if")) (aCons (fC (.str "same")) (aCons (fC (.str "and")) (aCons (fC (.str "or")) aNil)))))))) (f2 subU (fVar 4) (fC (.int 4)))))
    (fSeq (fSet 6 (fCall 4 (c i_law_saying) (aCons (fVar 0) (aCons (fVar 1) (aCons (fVar 2) (aCons (f2 subU (fVar 3) (fC (.int 1))) aNil))))))
    (fRet (fTup (aCons (fVar 5) (aCons (fVar 6) (aCons (fCall 4 (c i_law_saying) (aCons (fVar 0) (aCons (fVar 1) (aCons (fVar 2) (aCons (f2 subU (fVar 3) (fC (.int 1))) aNil))))) aNil)))))))))))
def b_law_rank (c : Nat → List U → Sto → R U) : FS :=
  (fRet (fM "dict" getM (fDval (dDisp [((fC (.str "same")), (fC (.int 1))), ((fC (.str "if")), (fC (.int 2))), ((fC (.str "or")), (fC (.int 3))), ((fC (.str "and")), (fC (.int 4))), ((fC (.str "not")), (fC (.int 5)))])) (aCons (f2 ixU (fVar 0) (fC (.int 0))) (aCons (fC (.int 6)) aNil))))
def b_law_text (c : Nat → List U → Sto → R U) : FS :=
  (fSeq (fSet 1 (f2 ixU (fVar 0) (fC (.int 0))))
    (fSeq (fIfS (fB (f2 inU (fVar 1) (fTup (aCons (fC (.str "yes")) (aCons (fC (.str "no")) aNil))))) (fRet (fVar 1)) fNop)
    (fSeq (fIfS (fB (f2 eqU (fVar 1) (fC (.str "name")))) (fRet (f2 ixU (fVar 0) (fC (.int 1)))) fNop)
    (fSeq (fSet 2 (fVal (aComp (aOver tupV (fSl (fVar 0) (oSome (fC (.int 1))) oNone)) (gN 8) fYes (fCall 1 (c i_law_text) (aCons (fVar 8) aNil)) [8])))
    (fSeq (fSet 3 (fVal (aComp (aOver tupV (fSl (fVar 0) (oSome (fC (.int 1))) oNone)) (gN 8) fYes (fCall 1 (c i_law_rank) (aCons (fVar 8) aNil)) [8])))
    (fSeq (fSet 4 (fVal (aComp (aOver lstV (fVar 2)) (gN 9) fYes (f2 addU (f2 addU (fC (.str "(")) (fVar 9)) (fC (.str ")"))) [9])))
    (fSeq (fIfS (fB (f2 eqU (fVar 1) (fC (.str "not")))) (fRet (f2 addU (fC (.str "not ")) (fIf (fB (f2 ltU (f2 ixU (fVar 3) (fC (.int 0))) (fC (.int 5)))) (f2 ixU (fVar 4) (fC (.int 0))) (f2 ixU (fVar 2) (fC (.int 0)))))) fNop)
    (fSeq (fSet 5 (fCall 1 (c i_law_rank) (aCons (fVar 0) aNil)))
    (fSeq (fSet 6 (fOrV (f2 ltU (f2 ixU (fVar 3) (fC (.int 0))) (fVar 5)) (fAndV (f2 eqU (f2 ixU (fVar 3) (fC (.int 0))) (fVar 5)) (f2 ltU (fVar 5) (fC (.int 3))))))
    (fSeq (fSet 7 (fM "dict" getM (fDval (dDisp [((fC (.str "same")), (fC (.str " is "))), ((fC (.str "if")), (fC (.str " gives ")))])) (aCons (fVar 1) (aCons (f2 addU (f2 addU (fC (.str " ")) (fVar 1)) (fC (.str " "))) aNil))))
    (fRet (f2 addU (f2 addU (fIf (fTru (fVar 6)) (f2 ixU (fVar 4) (fC (.int 0))) (f2 ixU (fVar 2) (fC (.int 0)))) (fVar 7)) (fIf (fB (f2 leU (f2 ixU (fVar 3) (fC (.int 1))) (fVar 5))) (f2 ixU (fVar 4) (fC (.int 1))) (f2 ixU (fVar 2) (fC (.int 1))))))))))))))))
def b_law_loose (c : Nat → List U → Sto → R U) : FS :=
  (fSeq (fSet 2 (f2 ixU (fVar 1) (fC (.int 0))))
    (fSeq (fIfS (fB (f2 inU (fVar 2) (fTup (aCons (fC (.str "yes")) (aCons (fC (.str "no")) (aCons (fC (.str "name")) aNil)))))) (fSet 3 (fIf (fB (f2 eqU (fVar 2) (fC (.str "name")))) (f2 ixU (fVar 1) (f1 negU (fC (.int 1)))) (fVar 2))) (fIfS (fB (f2 eqU (fVar 2) (fC (.str "not")))) (fSet 3 (f2 addU (f2 addU (f2 addU (fC (.str "not")) (f2 ixU (fVal (aLst (aCons (fC (.str "(")) (aCons (fC (.str " (  ")) aNil)))) (fCall 2 (c i_law_draw) (aCons (fVar 0) (aCons (fC (.int 2)) aNil))))) (fCall 2 (c i_law_loose) (aCons (fVar 0) (aCons (f2 ixU (fVar 1) (fC (.int 1))) aNil)))) (fC (.str ")")))) (fSeq (fSet 4 (fM "dict" getM (fDval (dDisp [((fC (.str "same")), (fC (.str "is"))), ((fC (.str "if")), (fC (.str "gives")))])) (aCons (fVar 2) (aCons (fVar 2) aNil))))
    (fSeq (fSet 5 (fVal (aComp (aOver tupV (fSl (fVar 1) (oSome (fC (.int 1))) oNone)) (gN 6) fYes (f2 addU (f2 addU (fC (.str "(")) (fCall 2 (c i_law_loose) (aCons (fVar 0) (aCons (fVar 6) aNil)))) (f2 ixU (fVal (aLst (aCons (fC (.str ")")) (aCons (fC (.str " )")) aNil)))) (fCall 2 (c i_law_draw) (aCons (fVar 0) (aCons (fC (.int 2)) aNil))))) [6])))
    (fSet 3 (f2 addU (f2 addU (f2 addU (f2 addU (f2 ixU (fVar 5) (fC (.int 0))) (f2 ixU (fVal (aLst (aCons (fC (.str "")) (aCons (fC (.str " ")) (aCons (fC (.str "   ")) aNil))))) (fCall 2 (c i_law_draw) (aCons (fVar 0) (aCons (fC (.int 3)) aNil))))) (fVar 4)) (f2 ixU (fVal (aLst (aCons (fC (.str "")) (aCons (fC (.str "  ")) aNil)))) (fCall 2 (c i_law_draw) (aCons (fVar 0) (aCons (fC (.int 2)) aNil))))) (f2 ixU (fVar 5) (fC (.int 1)))))))))
    (fRet (f2 ixU (fVal (aLst (aCons (fVar 3) (aCons (f2 addU (f2 addU (fC (.str "(")) (fVar 3)) (fC (.str ")"))) (aCons (f2 addU (f2 addU (fC (.str "( ")) (fVar 3)) (fC (.str ")"))) aNil))))) (fA maxC (aCons (fC (.int 0)) (aCons (f2 subU (fCall 2 (c i_law_draw) (aCons (fVar 0) (aCons (fC (.int 6)) aNil))) (fC (.int 3))) aNil)))))))
def b_law (c : Nat → List U → Sto → R U) : FS :=
  (fSeq (fSet 1 (fCall 1 (c i_law_tape) (aCons (fVar 0) aNil)))
    (fSeq (fSet 2 (fCall 2 (c i_law_words) (aCons (fVar 1) (aCons (fC (.int 8)) aNil))))
    (fSeq (fFor (aRng1 (aCons (fC (.int 6)) aNil)) (gN 3) (fSeq (fSet 4 (fCall 4 (c i_law_saying) (aCons (fVar 1) (aCons (fVar 2) (aCons (fLoc (aLst (aCons (f2 ixU (fVal (aLst (aCons (fC (.int 6)) (aCons (fC (.int 30)) (aCons (fC (.int 120)) aNil))))) (fCall 2 (c i_law_draw) (aCons (fVar 1) (aCons (fC (.int 3)) aNil)))) aNil))) (aCons (fC (.int 24)) aNil))))))
    (fSeq (fSet 5 (fCall 1 (c i_law_text) (aCons (fVar 4) aNil)))
    (fSeq (fFor (aRng1 (aCons (fC (.int 2)) aNil)) (gN 6) (fIfS (fOr (fB (f2 neU (fCall 1 (c i_show_saying) (aCons (fVar 4) aNil)) (fVar 5))) (fB (f2 neU (fA reprDC (aCons (fCall 1 (c i_read_saying) (aCons (fVar 5) aNil)) aNil)) (fA reprDC (aCons (fVar 4) aNil))))) (fRet (fC (.bl false))) fNop))
    (fSeq (fSet 7 (fReplS " " ["  ", " ", "    "] (fVar 5) (fCall 2 (c i_law_draw) (aCons (fVar 1) (aCons (fC (.int 3)) aNil)))))
    (fSeq (fSet 7 (fReplS "(" ["( ", "("] (fVar 7) (fCall 2 (c i_law_draw) (aCons (fVar 1) (aCons (fC (.int 2)) aNil)))))
    (fSeq (fSet 8 (fCall 4 (c i_law_saying) (aCons (fVar 1) (aCons (fVar 2) (aCons (fLoc (aLst (aCons (fC (.int 14)) aNil))) (aCons (fC (.int 8)) aNil))))))
    (fSeq (fIfS (fB (f2 neU (fCall 1 (c i_read_saying) (aCons (f2 addU (f2 addU (f2 mulZU (fC (.str " ")) (fCall 2 (c i_law_draw) (aCons (fVar 1) (aCons (fC (.int 3)) aNil)))) (fVar 7)) (fC (.str " "))) aNil)) (fVar 4))) (fRet (fC (.bl false))) fNop)
    (fIfS (fB (f2 neU (fCall 1 (c i_read_saying) (aCons (fCall 2 (c i_law_loose) (aCons (fVar 1) (aCons (fVar 8) aNil))) aNil)) (fVar 8))) (fRet (fC (.bl false))) fNop)))))))))
    (fRet (fC (.bl true))))))
def b_Reader___init__ (c : Nat → List U → Sto → R U) : FS :=
  (fSeq (fPutF "Reader" "pieces" (fVar 0) (fVar 1))
    (fSeq (fPutF "Reader" "at" (fVar 0) (fC (.int 0)))
    (fSeq (fPutF "Reader" "opened" (fVar 0) (fC (.int 0)))
    (fPutF "Reader" "denied" (fVar 0) (fC (.int 0))))))
def b_Reader_now (c : Nat → List U → Sto → R U) : FS :=
  (fRet (fIf (fB (f2 ltU (fGet "Reader" "at" (fVar 0)) (fA lenC (aCons (fGet "Reader" "pieces" (fVar 0)) aNil)))) (f2 ixU (fGet "Reader" "pieces" (fVar 0)) (fGet "Reader" "at" (fVar 0))) (fC (.str ""))))
def b_Reader_taken (c : Nat → List U → Sto → R U) : FS :=
  (fSeq (fSet 1 (fMeth "Reader" "now" 1 (c i_Reader_now) (fVar 0) aNil))
    (fSeq (fPutF "Reader" "at" (fVar 0) (f2 addU (fGet "Reader" "at" (fVar 0)) (fC (.int 1))))
    (fRet (fVar 1))))
def b_Reader_refuse (c : Nat → List U → Sto → R U) : FS :=
  (fRaise "NoText" "row" (aCons (fC (.int 0)) aNil))
def b_Reader_single (c : Nat → List U → Sto → R U) : FS :=
  (fSeq (fSet 1 (fMeth "Reader" "taken" 1 (c i_Reader_taken) (fVar 0) aNil))
    (fSeq (fIfS (fB (f2 eqU (fVar 1) (fC (.str "not")))) (fRet (fMeth "Reader" "denial" 1 (c i_Reader_denial) (fVar 0) aNil)) fNop)
    (fSeq (fIfS (fB (f2 eqU (fVar 1) (fC (.str "(")))) (fRet (fMeth "Reader" "bracketed" 1 (c i_Reader_bracketed) (fVar 0) aNil)) fNop)
    (fSeq (fIfS (fB (f2 inU (fVar 1) (fTup (aCons (fC (.str "yes")) (aCons (fC (.str "no")) aNil))))) (fRet (fTup (aCons (fVar 1) aNil))) fNop)
    (fSeq (fIfS (fNot (fTru (fCall 1 (c i_is_word) (aCons (fVar 1) aNil)))) (fExpr (fMeth "Reader" "refuse" 1 (c i_Reader_refuse) (fVar 0) aNil)) fNop)
    (fRet (fTup (aCons (fC (.str "name")) (aCons (fVar 1) aNil)))))))))
def b_Reader_denial (c : Nat → List U → Sto → R U) : FS :=
  (fSeq (fPutF "Reader" "denied" (fVar 0) (f2 addU (fGet "Reader" "denied" (fVar 0)) (fC (.int 1))))
    (fSeq (fIfS (fB (f2 geU (fGet "Reader" "denied" (fVar 0)) (fC c_DEEPEST))) (fExpr (fMeth "Reader" "refuse" 1 (c i_Reader_refuse) (fVar 0) aNil)) fNop)
    (fSeq (fSet 1 (fTup (aCons (fC (.str "not")) (aCons (fMeth "Reader" "single" 1 (c i_Reader_single) (fVar 0) aNil) aNil))))
    (fSeq (fPutF "Reader" "denied" (fVar 0) (f2 subU (fGet "Reader" "denied" (fVar 0)) (fC (.int 1))))
    (fRet (fVar 1))))))
def b_Reader_bracketed (c : Nat → List U → Sto → R U) : FS :=
  (fSeq (fPutF "Reader" "opened" (fVar 0) (f2 addU (fGet "Reader" "opened" (fVar 0)) (fC (.int 1))))
    (fSeq (fIfS (fB (f2 gtU (fGet "Reader" "opened" (fVar 0)) (fC c_MOST_OPEN))) (fExpr (fMeth "Reader" "refuse" 1 (c i_Reader_refuse) (fVar 0) aNil)) fNop)
    (fSeq (fSet 1 (fMeth "Reader" "of_rank" 2 (c i_Reader_of_rank) (fVar 0) (aCons (fC (.int 1)) aNil)))
    (fSeq (fIfS (fB (f2 neU (fMeth "Reader" "taken" 1 (c i_Reader_taken) (fVar 0) aNil) (fC (.str ")")))) (fExpr (fMeth "Reader" "refuse" 1 (c i_Reader_refuse) (fVar 0) aNil)) fNop)
    (fSeq (fPutF "Reader" "opened" (fVar 0) (f2 subU (fGet "Reader" "opened" (fVar 0)) (fC (.int 1))))
    (fRet (fVar 1)))))))
def b_Reader_of_rank (c : Nat → List U → Sto → R U) : FS :=
  (fSeq (fIfS (fB (f2 eqU (fVar 1) (fC (.int 5)))) (fRet (fMeth "Reader" "single" 1 (c i_Reader_single) (fVar 0) aNil)) fNop)
    (fSeq (fSet 2 (fMeth "Reader" "of_rank" 2 (c i_Reader_of_rank) (fVar 0) (aCons (f2 addU (fVar 1) (fC (.int 1))) aNil)))
    (fSeq (whileF (fB (f2 eqU (fWget2 t_RANKS (fWget2 t_WORDS (fMeth "Reader" "now" 1 (c i_Reader_now) (fVar 0) aNil) (fC (.str ""))) (fC (.int 0))) (fVar 1))) (fSeq (fSet 3 (fWix t_WORDS (fMeth "Reader" "taken" 1 (c i_Reader_taken) (fVar 0) aNil)))
    (fSeq (fSet 2 (fTup (aCons (fVar 3) (aCons (fVar 2) (aCons (fMeth "Reader" "of_rank" 2 (c i_Reader_of_rank) (fVar 0) (aCons (f2 addU (fVar 1) (fC (.int 1))) aNil)) aNil)))))
    (fIfS (fAnd (fB (f2 ltU (fVar 1) (fC (.int 3)))) (fB (f2 eqU (fWget2 t_RANKS (fWget2 t_WORDS (fMeth "Reader" "now" 1 (c i_Reader_now) (fVar 0) aNil) (fC (.str ""))) (fC (.int 0))) (fVar 1)))) (fExpr (fMeth "Reader" "refuse" 1 (c i_Reader_refuse) (fVar 0) aNil)) fNop))) 1000000)
    (fRet (fVar 2)))))
def bodies (c : Nat → List U → Sto → R U) : Nat → FS
  | 0 => b_is_word c
  | 1 => b_parts_in c
  | 2 => b_is_saying c
  | 3 => b_in_brackets c
  | 4 => b_show_saying c
  | 5 => b_pieces_of c
  | 6 => b_read_saying c
  | 7 => b_law_tape c
  | 8 => b_law_draw c
  | 9 => b_law_words c
  | 10 => b_law_saying c
  | 11 => b_law_rank c
  | 12 => b_law_text c
  | 13 => b_law_loose c
  | 14 => b_law c
  | 15 => b_Reader___init__ c
  | 16 => b_Reader_now c
  | 17 => b_Reader_taken c
  | 18 => b_Reader_refuse c
  | 19 => b_Reader_single c
  | 20 => b_Reader_denial c
  | 21 => b_Reader_bracketed c
  | 22 => b_Reader_of_rank c
  | _ => fNever
def slots : Nat → Nat
  | 0 => 2
  | 1 => 5
  | 2 => 1
  | 3 => 2
  | 4 => 6
  | 5 => 5
  | 6 => 4
  | 7 => 1
  | 8 => 9
  | 9 => 11
  | 10 => 7
  | 11 => 1
  | 12 => 10
  | 13 => 7
  | 14 => 9
  | 15 => 2
  | 16 => 1
  | 17 => 2
  | 18 => 1
  | 19 => 2
  | 20 => 2
  | 21 => 2
  | 22 => 4
  | _ => 0
def call : Nat → Nat → List U → Sto → R U
  | 0, _, _, _ => .bad
  | k + 1, i, us, S => match Nat.ble 1000 i with
    | true => call k (i - 1000) us S
    | false => runB (bodies (call k) i) (enStart (slots i) us) S
theorem call_sh (k i : Nat) : call (k + 1) (i + 1000) = call k i := by
  funext us S
  have e : Nat.ble 1000 (i + 1000) = true := Nat.ble_eq_true_of_le (Nat.le_add_left 1000 i)
  rw [call, e]
  show call k (i + 1000 - 1000) us S = _
  rw [Nat.add_sub_cancel]
end
set_option maxHeartbeats 0 in
structure Txt (w : World) (K : PySem.W.Frag) (mg : Str → Option Value) where
  a_is_word : Addr
  fd_is_word : FuncData
  F_is_word : Fun K "is_word" "is_word" s_is_word a_is_word fd_is_word
  m_is_word : mg "is_word" = some (.ref a_is_word)
  b_is_word : Binds K fd_is_word ["thing"] []
  a_parts_in : Addr
  fd_parts_in : FuncData
  F_parts_in : Fun K "parts_in" "parts_in" s_parts_in a_parts_in fd_parts_in
  m_parts_in : mg "parts_in" = some (.ref a_parts_in)
  b_parts_in : Binds K fd_parts_in ["thing", "deep"] []
  a_is_saying : Addr
  fd_is_saying : FuncData
  F_is_saying : Fun K "is_saying" "is_saying" s_is_saying a_is_saying fd_is_saying
  m_is_saying : mg "is_saying" = some (.ref a_is_saying)
  b_is_saying : Binds K fd_is_saying ["thing"] []
  a_in_brackets : Addr
  fd_in_brackets : FuncData
  F_in_brackets : Fun K "in_brackets" "in_brackets" s_in_brackets a_in_brackets fd_in_brackets
  m_in_brackets : mg "in_brackets" = some (.ref a_in_brackets)
  b_in_brackets : Binds K fd_in_brackets ["text", "needed"] []
  a_show_saying : Addr
  fd_show_saying : FuncData
  F_show_saying : Fun K "show_saying" "show_saying" s_show_saying a_show_saying fd_show_saying
  m_show_saying : mg "show_saying" = some (.ref a_show_saying)
  b_show_saying : Binds K fd_show_saying ["saying"] []
  a_pieces_of : Addr
  fd_pieces_of : FuncData
  F_pieces_of : Fun K "pieces_of" "pieces_of" s_pieces_of a_pieces_of fd_pieces_of
  m_pieces_of : mg "pieces_of" = some (.ref a_pieces_of)
  b_pieces_of : Binds K fd_pieces_of ["text"] []
  a_read_saying : Addr
  fd_read_saying : FuncData
  F_read_saying : Fun K "read_saying" "read_saying" s_read_saying a_read_saying fd_read_saying
  m_read_saying : mg "read_saying" = some (.ref a_read_saying)
  b_read_saying : Binds K fd_read_saying ["text"] []
  a__law_tape : Addr
  fd__law_tape : FuncData
  F__law_tape : Fun K "_law_tape" "_law_tape" s_law_tape a__law_tape fd__law_tape
  m__law_tape : mg "_law_tape" = some (.ref a__law_tape)
  b__law_tape : Binds K fd__law_tape ["_law_script"] []
  a__law_draw : Addr
  fd__law_draw : FuncData
  F__law_draw : Fun K "_law_draw" "_law_draw" s_law_draw a__law_draw fd__law_draw
  m__law_draw : mg "_law_draw" = some (.ref a__law_draw)
  b__law_draw : Binds K fd__law_draw ["_law_tape_here", "_law_many"] []
  a__law_words : Addr
  fd__law_words : FuncData
  F__law_words : Fun K "_law_words" "_law_words" s_law_words a__law_words fd__law_words
  m__law_words : mg "_law_words" = some (.ref a__law_words)
  b__law_words : Binds K fd__law_words ["_law_tape_here", "_law_many"] []
  a__law_saying : Addr
  fd__law_saying : FuncData
  F__law_saying : Fun K "_law_saying" "_law_saying" s_law_saying a__law_saying fd__law_saying
  m__law_saying : mg "_law_saying" = some (.ref a__law_saying)
  b__law_saying : Binds K fd__law_saying ["_law_tape_here", "_law_names", "_law_left", "_law_deep"] []
  a__law_rank : Addr
  fd__law_rank : FuncData
  F__law_rank : Fun K "_law_rank" "_law_rank" s_law_rank a__law_rank fd__law_rank
  m__law_rank : mg "_law_rank" = some (.ref a__law_rank)
  b__law_rank : Binds K fd__law_rank ["_law_saying_here"] []
  a__law_text : Addr
  fd__law_text : FuncData
  F__law_text : Fun K "_law_text" "_law_text" s_law_text a__law_text fd__law_text
  m__law_text : mg "_law_text" = some (.ref a__law_text)
  b__law_text : Binds K fd__law_text ["_law_saying_here"] []
  a__law_loose : Addr
  fd__law_loose : FuncData
  F__law_loose : Fun K "_law_loose" "_law_loose" s_law_loose a__law_loose fd__law_loose
  m__law_loose : mg "_law_loose" = some (.ref a__law_loose)
  b__law_loose : Binds K fd__law_loose ["_law_tape_here", "_law_saying_here"] []
  a_law : Addr
  fd_law : FuncData
  F_law : Fun K "law" "law" s_law a_law fd_law
  m_law : mg "law" = some (.ref a_law)
  b_law : Binds K fd_law ["_law_script"] []
  a_Reader___init__ : Addr
  fd_Reader___init__ : FuncData
  F_Reader___init__ : Fun K "__init__" "Reader.__init__" s_Reader___init__ a_Reader___init__ fd_Reader___init__
  b_Reader___init__ : Binds K fd_Reader___init__ ["self", "pieces"] []
  a_Reader_now : Addr
  fd_Reader_now : FuncData
  F_Reader_now : Fun K "now" "Reader.now" s_Reader_now a_Reader_now fd_Reader_now
  b_Reader_now : Binds K fd_Reader_now ["self"] []
  a_Reader_taken : Addr
  fd_Reader_taken : FuncData
  F_Reader_taken : Fun K "taken" "Reader.taken" s_Reader_taken a_Reader_taken fd_Reader_taken
  b_Reader_taken : Binds K fd_Reader_taken ["self"] []
  a_Reader_refuse : Addr
  fd_Reader_refuse : FuncData
  F_Reader_refuse : Fun K "refuse" "Reader.refuse" s_Reader_refuse a_Reader_refuse fd_Reader_refuse
  b_Reader_refuse : Binds K fd_Reader_refuse ["self"] []
  a_Reader_single : Addr
  fd_Reader_single : FuncData
  F_Reader_single : Fun K "single" "Reader.single" s_Reader_single a_Reader_single fd_Reader_single
  b_Reader_single : Binds K fd_Reader_single ["self"] []
  a_Reader_denial : Addr
  fd_Reader_denial : FuncData
  F_Reader_denial : Fun K "denial" "Reader.denial" s_Reader_denial a_Reader_denial fd_Reader_denial
  b_Reader_denial : Binds K fd_Reader_denial ["self"] []
  a_Reader_bracketed : Addr
  fd_Reader_bracketed : FuncData
  F_Reader_bracketed : Fun K "bracketed" "Reader.bracketed" s_Reader_bracketed a_Reader_bracketed fd_Reader_bracketed
  b_Reader_bracketed : Binds K fd_Reader_bracketed ["self"] []
  a_Reader_of_rank : Addr
  fd_Reader_of_rank : FuncData
  F_Reader_of_rank : Fun K "of_rank" "Reader.of_rank" s_Reader_of_rank a_Reader_of_rank fd_Reader_of_rank
  b_Reader_of_rank : Binds K fd_Reader_of_rank ["self", "rank"] []
  C_Reader : Addr
  mc_Reader : mg "Reader" = some (.ref C_Reader)
  cl_Reader : Cls K C_Reader
  mk_Reader : Mk K C_Reader a_Reader___init__
  me_Reader_now : Meth K C_Reader "now" a_Reader_now
  me_Reader_taken : Meth K C_Reader "taken" a_Reader_taken
  me_Reader_refuse : Meth K C_Reader "refuse" a_Reader_refuse
  me_Reader_single : Meth K C_Reader "single" a_Reader_single
  me_Reader_denial : Meth K C_Reader "denial" a_Reader_denial
  me_Reader_bracketed : Meth K C_Reader "bracketed" a_Reader_bracketed
  me_Reader_of_rank : Meth K C_Reader "of_rank" a_Reader_of_rank
  na_Reader_at : NoAttr K C_Reader "at"
  na_Reader_denied : NoAttr K C_Reader "denied"
  na_Reader_opened : NoAttr K C_Reader "opened"
  na_Reader_pieces : NoAttr K C_Reader "pieces"
  k_DEEPEST : Value
  y_DEEPEST : V
  m_DEEPEST : mg "DEEPEST" = some k_DEEPEST
  r_DEEPEST : RelV y_DEEPEST k_DEEPEST
  v_DEEPEST : ∀ {P : Program} {z : World} {e : Wd}, VR ⟨K, mg, P, z⟩ e c_DEEPEST y_DEEPEST
  k_LETTERS : Value
  y_LETTERS : V
  m_LETTERS : mg "LETTERS" = some k_LETTERS
  r_LETTERS : RelV y_LETTERS k_LETTERS
  v_LETTERS : ∀ {P : Program} {z : World} {e : Wd}, VR ⟨K, mg, P, z⟩ e c_LETTERS y_LETTERS
  k_LONGEST_WORD : Value
  y_LONGEST_WORD : V
  m_LONGEST_WORD : mg "LONGEST_WORD" = some k_LONGEST_WORD
  r_LONGEST_WORD : RelV y_LONGEST_WORD k_LONGEST_WORD
  v_LONGEST_WORD : ∀ {P : Program} {z : World} {e : Wd}, VR ⟨K, mg, P, z⟩ e c_LONGEST_WORD y_LONGEST_WORD
  a_MANY : Addr
  m_MANY : mg "MANY" = some (.ref a_MANY)
  d_MANY : KTab K w a_MANY t_MANY
  k_MOST_OPEN : Value
  y_MOST_OPEN : V
  m_MOST_OPEN : mg "MOST_OPEN" = some k_MOST_OPEN
  r_MOST_OPEN : RelV y_MOST_OPEN k_MOST_OPEN
  v_MOST_OPEN : ∀ {P : Program} {z : World} {e : Wd}, VR ⟨K, mg, P, z⟩ e c_MOST_OPEN y_MOST_OPEN
  k_MOST_PARTS : Value
  y_MOST_PARTS : V
  m_MOST_PARTS : mg "MOST_PARTS" = some k_MOST_PARTS
  r_MOST_PARTS : RelV y_MOST_PARTS k_MOST_PARTS
  v_MOST_PARTS : ∀ {P : Program} {z : World} {e : Wd}, VR ⟨K, mg, P, z⟩ e c_MOST_PARTS y_MOST_PARTS
  a_RANKS : Addr
  m_RANKS : mg "RANKS" = some (.ref a_RANKS)
  d_RANKS : KTab K w a_RANKS t_RANKS
  a_SIGNS : Addr
  m_SIGNS : mg "SIGNS" = some (.ref a_SIGNS)
  d_SIGNS : KTab K w a_SIGNS t_SIGNS
  a_WORDS : Addr
  m_WORDS : mg "WORDS" = some (.ref a_WORDS)
  d_WORDS : KTab K w a_WORDS t_WORDS
  k_WORDS_OF_TEXTS : Value
  y_WORDS_OF_TEXTS : V
  m_WORDS_OF_TEXTS : mg "WORDS_OF_TEXTS" = some k_WORDS_OF_TEXTS
  r_WORDS_OF_TEXTS : RelV y_WORDS_OF_TEXTS k_WORDS_OF_TEXTS
  v_WORDS_OF_TEXTS : ∀ {P : Program} {z : World} {e : Wd}, VR ⟨K, mg, P, z⟩ e c_WORDS_OF_TEXTS y_WORDS_OF_TEXTS
  C_NoText : Addr
  I_NoText : Addr
  fi_NoText : FuncData
  x_NoText : XC K mg "NoText" "row" "row" C_NoText I_NoText fi_NoText sx_NoText "ValueError.__new__" [.type "ValueError", .type "Exception", .type "BaseException", .type "object"]
  vb_ValueError : PySem.W.findCls K (.type "ValueError") (.type "type") "__init__" = some (.val (.builtin "ValueError.__init__"))
  z_ValueError : mg "ValueError" = none
  z_all : mg "all" = none
  z_int : mg "int" = none
  z_isinstance : mg "isinstance" = none
  z_len : mg "len" = none
  z_max : mg "max" = none
  z_min : mg "min" = none
  z_range : mg "range" = none
  z_repr : mg "repr" = none
  z_str : mg "str" = none
  z_tuple : mg "tuple" = none
  nbk : PySem.W.nsIn K cStatics sharingNotToldKey = some none
section
variable {P : Program} {w : World} {K : PySem.W.Frag} {mg : Str → Option Value} {base : Heap}
theorem xi_NoText (T : Txt w K mg) : FnOk P w K mg base (L2.CX P w) 1 T.I_NoText T.fi_NoText ["self", "row"] (spI T.C_NoText "row") := by
  refine T.x_NoText.fi.okX scx_NoText (fun vs H Q E h => ?_) fun cdv A outer s H vs Q E hr h => ?_
  · obtain ⟨a, y, rfl, _⟩ := h; rfl
  · refine ⟨_, pss_cons (ps_expr (pe_binit bx_ValueError T.x_NoText.ox rfl T.z_ValueError T.vb_ValueError (pa_cons (pv 0) (pa_cons pe_str pa_nil)))) (pss_one (ps_oset bx_ValueError T.x_NoText.ox T.x_NoText.nf (pv 0) (pv 1))), ?_⟩
    obtain ⟨a, y, rfl, ha, q⟩ := h
    exact ⟨.ref a, rfl, a, _, rfl, (by show 1 ≤ 1000; decide), ha, y, rfl, .ref a, rfl, a, rfl, ha, fun dx n ne => q dx n ne⟩
theorem xk_NoText (T : Txt w K mg) : ExcOk P w K mg base 1 "NoText" "row" := ⟨T.C_NoText, T.I_NoText, "row", T.fi_NoText, "ValueError", "ValueError", "ValueError.__new__", "ValueError.__init__", _, bx_ValueError, T.x_NoText.ox, T.x_NoText.ic, T.x_NoText.ti, xi_NoText T, T.x_NoText.bi, T.x_NoText.mc⟩
set_option maxHeartbeats 0 in
structure Oks (P : Program) (base : Heap) (T : Txt w K mg) (k : Nat) : Prop where
  o_is_word : FnOk P w K mg base (L2.CX P w) (k + 2) T.a_is_word T.fd_is_word ["thing"] (spOf ⟨K, mg, P, w⟩ 1 (call k i_is_word))
  o_parts_in : FnOk P w K mg base (L2.CX P w) (k + 2) T.a_parts_in T.fd_parts_in ["thing", "deep"] (spOf ⟨K, mg, P, w⟩ 2 (call k i_parts_in))
  o_is_saying : FnOk P w K mg base (L2.CX P w) (k + 2) T.a_is_saying T.fd_is_saying ["thing"] (spOf ⟨K, mg, P, w⟩ 1 (call k i_is_saying))
  o_in_brackets : FnOk P w K mg base (L2.CX P w) (k + 2) T.a_in_brackets T.fd_in_brackets ["text", "needed"] (spOf ⟨K, mg, P, w⟩ 2 (call k i_in_brackets))
  o_show_saying : FnOk P w K mg base (L2.CX P w) (k + 2) T.a_show_saying T.fd_show_saying ["saying"] (spOf ⟨K, mg, P, w⟩ 1 (call k i_show_saying))
  o_pieces_of : FnOk P w K mg base (L2.CX P w) (k + 2) T.a_pieces_of T.fd_pieces_of ["text"] (spOf ⟨K, mg, P, w⟩ 1 (call k i_pieces_of))
  o_read_saying : FnOk P w K mg base (L2.CX P w) (k + 2) T.a_read_saying T.fd_read_saying ["text"] (spOf ⟨K, mg, P, w⟩ 1 (call k i_read_saying))
  o__law_tape : FnOk P w K mg base (L2.CX P w) (k + 2) T.a__law_tape T.fd__law_tape ["_law_script"] (spOf ⟨K, mg, P, w⟩ 1 (call k i_law_tape))
  o__law_draw : FnOk P w K mg base (L2.CX P w) (k + 2) T.a__law_draw T.fd__law_draw ["_law_tape_here", "_law_many"] (spOf ⟨K, mg, P, w⟩ 2 (call k i_law_draw))
  o__law_words : FnOk P w K mg base (L2.CX P w) (k + 2) T.a__law_words T.fd__law_words ["_law_tape_here", "_law_many"] (spOf ⟨K, mg, P, w⟩ 2 (call k i_law_words))
  o__law_saying : FnOk P w K mg base (L2.CX P w) (k + 2) T.a__law_saying T.fd__law_saying ["_law_tape_here", "_law_names", "_law_left", "_law_deep"] (spOf ⟨K, mg, P, w⟩ 4 (call k i_law_saying))
  o__law_rank : FnOk P w K mg base (L2.CX P w) (k + 2) T.a__law_rank T.fd__law_rank ["_law_saying_here"] (spOf ⟨K, mg, P, w⟩ 1 (call k i_law_rank))
  o__law_text : FnOk P w K mg base (L2.CX P w) (k + 2) T.a__law_text T.fd__law_text ["_law_saying_here"] (spOf ⟨K, mg, P, w⟩ 1 (call k i_law_text))
  o__law_loose : FnOk P w K mg base (L2.CX P w) (k + 2) T.a__law_loose T.fd__law_loose ["_law_tape_here", "_law_saying_here"] (spOf ⟨K, mg, P, w⟩ 2 (call k i_law_loose))
  o_law : FnG P w K mg base (L2.CX P w) (k + 2) T.a_law T.fd_law ["_law_script"] (spOf ⟨K, mg, P, w⟩ 1 (call k i_law))
  o_Reader___init__ : FnOk P w K mg base (L2.CX P w) (k + 2) T.a_Reader___init__ T.fd_Reader___init__ ["self", "pieces"] (spOf ⟨K, mg, P, w⟩ 2 (call k i_Reader___init__))
  o_Reader_now : FnOk P w K mg base (L2.CX P w) (k + 2) T.a_Reader_now T.fd_Reader_now ["self"] (spOf ⟨K, mg, P, w⟩ 1 (call k i_Reader_now))
  o_Reader_taken : FnOk P w K mg base (L2.CX P w) (k + 2) T.a_Reader_taken T.fd_Reader_taken ["self"] (spOf ⟨K, mg, P, w⟩ 1 (call k i_Reader_taken))
  o_Reader_refuse : FnOk P w K mg base (L2.CX P w) (k + 2) T.a_Reader_refuse T.fd_Reader_refuse ["self"] (spOf ⟨K, mg, P, w⟩ 1 (call k i_Reader_refuse))
  o_Reader_single : FnOk P w K mg base (L2.CX P w) (k + 2) T.a_Reader_single T.fd_Reader_single ["self"] (spOf ⟨K, mg, P, w⟩ 1 (call k i_Reader_single))
  o_Reader_denial : FnOk P w K mg base (L2.CX P w) (k + 2) T.a_Reader_denial T.fd_Reader_denial ["self"] (spOf ⟨K, mg, P, w⟩ 1 (call k i_Reader_denial))
  o_Reader_bracketed : FnOk P w K mg base (L2.CX P w) (k + 2) T.a_Reader_bracketed T.fd_Reader_bracketed ["self"] (spOf ⟨K, mg, P, w⟩ 1 (call k i_Reader_bracketed))
  o_Reader_of_rank : FnOk P w K mg base (L2.CX P w) (k + 2) T.a_Reader_of_rank T.fd_Reader_of_rank ["self", "rank"] (spOf ⟨K, mg, P, w⟩ 2 (call k i_Reader_of_rank))
  o1_Reader___init__ : FnOk P w K mg base (L2.CX P w) (k + 1) T.a_Reader___init__ T.fd_Reader___init__ ["self", "pieces"] (spOf ⟨K, mg, P, w⟩ 2 (call k (i_Reader___init__ + 1000)))
set_option maxHeartbeats 4000000 in
theorem sim_is_word {k : Nat} (T : Txt w K mg) (O : Oks P base T k) (cdv : Value) (A : Around) (outer : List Env) (s : Shared) (H : Hp) (E : XK) (hr : Room (k + 2) (A.deeper (PyProof.Rows.envOfC "is_word" (defScope s_is_word) s.heap.objs.size T.a_is_word cdv))) :
    SimB (cxOf (L2.CX P w) P w K mg base n_is_word "is_word" (defScope s_is_word) T.a_is_word cdv A outer s H E) (fun cls d _ H2 => E cls d H2) (defBody s_is_word) (b_is_word (call k)) := by
  have nd := sc_is_word.nd
  have hk : Room (k + 2) (A.deeper (PyProof.Rows.envOfC "is_word" (defScope s_is_word) s.heap.objs.size T.a_is_word cdv)) := hr.mono (by omega)
  have hu66 := hr.un
  have hu64 : (A.deeper (PyProof.Rows.envOfC "is_word" (defScope s_is_word) s.heap.objs.size T.a_is_word cdv)).units + 64 < cLine := by omega
  have hu1 : (A.deeper (PyProof.Rows.envOfC "is_word" (defScope s_is_word) s.heap.objs.size T.a_is_word cdv)).units + 1 < cLine := by omega
  have hu67 : (A.deeper (PyProof.Rows.envOfC "is_word" (defScope s_is_word) s.heap.objs.size T.a_is_word cdv)).units + 67 < cLine := by omega
  replace hu66 : (A.deeper (PyProof.Rows.envOfC "is_word" (defScope s_is_word) s.heap.objs.size T.a_is_word cdv)).units + 66 < cLine := by omega
  exact (sb_cons (ss_if (SimW.t (sw_or (st_not (st_val (se_callB cs_isi rfl T.z_isinstance (by decide +kernel) (sa_cons (se_var 0) (sa_cons (se_ty "str" rfl T.z_str (by decide +kernel)) sa_nil))))) (sw_or1 (st_not (st_chain os_le noX_le os_le noX_le se_int (se_callB cs_len rfl T.z_len (by decide +kernel) (sa_cons (se_var 0) sa_nil)) (se_glob rfl T.m_LONGEST_WORD T.r_LONGEST_WORD (fun _ => T.v_LONGEST_WORD))))))) (sb_one (ss_ret se_bl)) sb_nil)
    (sb_one (ss_ret (se_and (se_callB (cs_all rfl) rfl T.z_all (by decide +kernel) (sa_cons (SimL.val (sl_comp rfl nd (si_str (se_var 0)) (blkOk_by (own := [("sign", 1)]) (N := n_is_word) (sc := defScope s_is_word) (by decide +kernel)) (fun _ _ _ _ _ => (sg_name 1 nd rfl (by first | exact Or.inl rfl | exact Or.inr rfl))) (fun _ _ _ _ _ => ts_nil) (fun _ _ _ _ _ => (se_cmp (os_in hu66) noX_in (se_var 1) (se_glob rfl T.m_LETTERS T.r_LETTERS (fun _ => T.v_LETTERS)) (by rfl))))) sa_nil)) (se_one (se_cmp (os_nin hu66) noX_nin (se_var 0) (se_glob rfl T.m_WORDS_OF_TEXTS T.r_WORDS_OF_TEXTS (fun _ => T.v_WORDS_OF_TEXTS)) (by rfl)))))))
set_option maxHeartbeats 4000000 in
theorem sim_parts_in {k : Nat} (T : Txt w K mg) (O : Oks P base T k) (cdv : Value) (A : Around) (outer : List Env) (s : Shared) (H : Hp) (E : XK) (hr : Room (k + 2) (A.deeper (PyProof.Rows.envOfC "parts_in" (defScope s_parts_in) s.heap.objs.size T.a_parts_in cdv))) :
    SimB (cxOf (L2.CX P w) P w K mg base n_parts_in "parts_in" (defScope s_parts_in) T.a_parts_in cdv A outer s H E) (fun cls d _ H2 => E cls d H2) (defBody s_parts_in) (b_parts_in (call k)) := by
  have nd := sc_parts_in.nd
  have hk : Room (k + 2) (A.deeper (PyProof.Rows.envOfC "parts_in" (defScope s_parts_in) s.heap.objs.size T.a_parts_in cdv)) := hr.mono (by omega)
  have hu66 := hr.un
  have hu64 : (A.deeper (PyProof.Rows.envOfC "parts_in" (defScope s_parts_in) s.heap.objs.size T.a_parts_in cdv)).units + 64 < cLine := by omega
  have hu1 : (A.deeper (PyProof.Rows.envOfC "parts_in" (defScope s_parts_in) s.heap.objs.size T.a_parts_in cdv)).units + 1 < cLine := by omega
  have hu67 : (A.deeper (PyProof.Rows.envOfC "parts_in" (defScope s_parts_in) s.heap.objs.size T.a_parts_in cdv)).units + 67 < cLine := by omega
  replace hu66 : (A.deeper (PyProof.Rows.envOfC "parts_in" (defScope s_parts_in) s.heap.objs.size T.a_parts_in cdv)).units + 66 < cLine := by omega
  exact (sb_cons (ss_if (SimW.t (sw_or (st_cmp os_gt noX_gt (se_var 1) (se_glob rfl T.m_DEEPEST T.r_DEEPEST (fun _ => T.v_DEEPEST)) (nomark _)) (sw_or (st_not (st_val (se_callB cs_isi rfl T.z_isinstance (by decide +kernel) (sa_cons (se_var 0) (sa_cons (se_ty "tuple" rfl T.z_tuple (by decide +kernel)) sa_nil))))) (sw_or (st_cmp os_lt noX_lt (se_callB cs_len rfl T.z_len (by decide +kernel) (sa_cons (se_var 0) sa_nil)) se_int (nomark _)) (sw_or1 (st_not (st_val (se_callB cs_isi rfl T.z_isinstance (by decide +kernel) (sa_cons (se_ix hu1 (se_var 0) se_int) (sa_cons (se_ty "str" rfl T.z_str (by decide +kernel)) sa_nil)))))))))) (sb_one (ss_ret (se_op os_add noX_add (se_glob rfl T.m_MOST_PARTS T.r_MOST_PARTS (fun _ => T.v_MOST_PARTS)) se_int))) sb_nil)
    (sb_cons (ss_if (st_cmp (os_eq hu64) noX_eq (se_ix hu1 (se_var 0) se_int) se_str (nomark _)) (sb_one (ss_ret (se_if (SimW.t (sw_and (st_cmp (os_eq hu64) noX_eq (se_callB cs_len rfl T.z_len (by decide +kernel) (sa_cons (se_var 0) sa_nil)) se_int (nomark _)) (sw_and1 (st_val (se_call (O.o_is_word) hk (pas_of (takes_of rfl rfl rfl rfl)) rfl T.m_is_word T.F_is_word.kp T.b_is_word (sa_cons (se_ix hu1 (se_var 0) se_int) sa_nil)))))) se_int (se_op os_add noX_add (se_glob rfl T.m_MOST_PARTS T.r_MOST_PARTS (fun _ => T.v_MOST_PARTS)) se_int)))) sb_nil)
    (sb_cons (ss_set 2 nd rfl (by first | exact Or.inl rfl | exact Or.inr rfl) (se_wget T.d_MANY rfl T.m_MANY (se_ix hu1 (se_var 0) se_int)))
    (sb_cons (ss_if (SimW.t (sw_or (st_cmp os_is noX_is (se_var 2) se_non (nomark _)) (sw_or1 (st_cmp (os_ne hu64) noX_ne (se_callB cs_len rfl T.z_len (by decide +kernel) (sa_cons (se_var 0) sa_nil)) (se_op os_add noX_add se_int (se_var 2)) (nomark _))))) (sb_one (ss_ret (se_op os_add noX_add (se_glob rfl T.m_MOST_PARTS T.r_MOST_PARTS (fun _ => T.v_MOST_PARTS)) se_int))) sb_nil)
    (sb_cons (ss_set 3 nd rfl (by first | exact Or.inl rfl | exact Or.inr rfl) se_int)
    (sb_cons (ss_for (passes_of rfl) rfl (si_tup (se_slice (se_var 0) (so_some se_int) so_none)) (sg_name 4 nd rfl (by first | exact Or.inl rfl | exact Or.inr rfl)) (sb_cons (ss_set 3 nd rfl (by first | exact Or.inl rfl | exact Or.inr rfl) (se_op os_add noX_add (se_var 3) (se_call (O.o_parts_in) hk (pas_of (takes_of rfl rfl rfl rfl)) rfl T.m_parts_in T.F_parts_in.kp T.b_parts_in (sa_cons (se_var 4) (sa_cons (se_op os_add noX_add (se_var 1) se_int) sa_nil)))))
    (sb_one (ss_if (st_cmp os_gt noX_gt (se_var 3) (se_glob rfl T.m_MOST_PARTS T.r_MOST_PARTS (fun _ => T.v_MOST_PARTS)) (nomark _)) (sb_one (ss_ret (se_var 3))) sb_nil))))
    (sb_one (ss_ret (se_var 3)))))))))
set_option maxHeartbeats 4000000 in
theorem sim_is_saying {k : Nat} (T : Txt w K mg) (O : Oks P base T k) (cdv : Value) (A : Around) (outer : List Env) (s : Shared) (H : Hp) (E : XK) (hr : Room (k + 2) (A.deeper (PyProof.Rows.envOfC "is_saying" (defScope s_is_saying) s.heap.objs.size T.a_is_saying cdv))) :
    SimB (cxOf (L2.CX P w) P w K mg base n_is_saying "is_saying" (defScope s_is_saying) T.a_is_saying cdv A outer s H E) (fun cls d _ H2 => E cls d H2) (defBody s_is_saying) (b_is_saying (call k)) := by
  have nd := sc_is_saying.nd
  have hk : Room (k + 2) (A.deeper (PyProof.Rows.envOfC "is_saying" (defScope s_is_saying) s.heap.objs.size T.a_is_saying cdv)) := hr.mono (by omega)
  have hu66 := hr.un
  have hu64 : (A.deeper (PyProof.Rows.envOfC "is_saying" (defScope s_is_saying) s.heap.objs.size T.a_is_saying cdv)).units + 64 < cLine := by omega
  have hu1 : (A.deeper (PyProof.Rows.envOfC "is_saying" (defScope s_is_saying) s.heap.objs.size T.a_is_saying cdv)).units + 1 < cLine := by omega
  have hu67 : (A.deeper (PyProof.Rows.envOfC "is_saying" (defScope s_is_saying) s.heap.objs.size T.a_is_saying cdv)).units + 67 < cLine := by omega
  replace hu66 : (A.deeper (PyProof.Rows.envOfC "is_saying" (defScope s_is_saying) s.heap.objs.size T.a_is_saying cdv)).units + 66 < cLine := by omega
  exact (sb_one (ss_ret (se_cmp os_le noX_le (se_call (O.o_parts_in) hk (pas_of (takes_of rfl rfl rfl rfl)) rfl T.m_parts_in T.F_parts_in.kp T.b_parts_in (sa_cons (se_var 0) (sa_cons se_int sa_nil))) (se_glob rfl T.m_MOST_PARTS T.r_MOST_PARTS (fun _ => T.v_MOST_PARTS)) (nomark _))))
set_option maxHeartbeats 4000000 in
theorem sim_in_brackets {k : Nat} (T : Txt w K mg) (O : Oks P base T k) (cdv : Value) (A : Around) (outer : List Env) (s : Shared) (H : Hp) (E : XK) (hr : Room (k + 2) (A.deeper (PyProof.Rows.envOfC "in_brackets" (defScope s_in_brackets) s.heap.objs.size T.a_in_brackets cdv))) :
    SimB (cxOf (L2.CX P w) P w K mg base n_in_brackets "in_brackets" (defScope s_in_brackets) T.a_in_brackets cdv A outer s H E) (fun cls d _ H2 => E cls d H2) (defBody s_in_brackets) (b_in_brackets (call k)) := by
  have nd := sc_in_brackets.nd
  have hk : Room (k + 2) (A.deeper (PyProof.Rows.envOfC "in_brackets" (defScope s_in_brackets) s.heap.objs.size T.a_in_brackets cdv)) := hr.mono (by omega)
  have hu66 := hr.un
  have hu64 : (A.deeper (PyProof.Rows.envOfC "in_brackets" (defScope s_in_brackets) s.heap.objs.size T.a_in_brackets cdv)).units + 64 < cLine := by omega
  have hu1 : (A.deeper (PyProof.Rows.envOfC "in_brackets" (defScope s_in_brackets) s.heap.objs.size T.a_in_brackets cdv)).units + 1 < cLine := by omega
  have hu67 : (A.deeper (PyProof.Rows.envOfC "in_brackets" (defScope s_in_brackets) s.heap.objs.size T.a_in_brackets cdv)).units + 67 < cLine := by omega
  replace hu66 : (A.deeper (PyProof.Rows.envOfC "in_brackets" (defScope s_in_brackets) s.heap.objs.size T.a_in_brackets cdv)).units + 66 < cLine := by omega
  exact (sb_one (ss_ret (se_if (st_val (se_var 1)) (se_op os_add noX_add (se_op os_add noX_add se_str (se_var 0)) se_str) (se_var 0))))
set_option maxHeartbeats 4000000 in
theorem sim_show_saying {k : Nat} (T : Txt w K mg) (O : Oks P base T k) (cdv : Value) (A : Around) (outer : List Env) (s : Shared) (H : Hp) (E : XK) (hr : Room (k + 2) (A.deeper (PyProof.Rows.envOfC "show_saying" (defScope s_show_saying) s.heap.objs.size T.a_show_saying cdv))) :
    SimB (cxOf (L2.CX P w) P w K mg base n_show_saying "show_saying" (defScope s_show_saying) T.a_show_saying cdv A outer s H E) (fun cls d _ H2 => E cls d H2) (defBody s_show_saying) (b_show_saying (call k)) := by
  have nd := sc_show_saying.nd
  have hk : Room (k + 2) (A.deeper (PyProof.Rows.envOfC "show_saying" (defScope s_show_saying) s.heap.objs.size T.a_show_saying cdv)) := hr.mono (by omega)
  have hu66 := hr.un
  have hu64 : (A.deeper (PyProof.Rows.envOfC "show_saying" (defScope s_show_saying) s.heap.objs.size T.a_show_saying cdv)).units + 64 < cLine := by omega
  have hu1 : (A.deeper (PyProof.Rows.envOfC "show_saying" (defScope s_show_saying) s.heap.objs.size T.a_show_saying cdv)).units + 1 < cLine := by omega
  have hu67 : (A.deeper (PyProof.Rows.envOfC "show_saying" (defScope s_show_saying) s.heap.objs.size T.a_show_saying cdv)).units + 67 < cLine := by omega
  replace hu66 : (A.deeper (PyProof.Rows.envOfC "show_saying" (defScope s_show_saying) s.heap.objs.size T.a_show_saying cdv)).units + 66 < cLine := by omega
  exact (sb_cons (ss_par 1 2 rfl nd rfl rfl (by decide) rfl rfl (sa_cons (se_ix hu1 (se_var 0) se_int) (sa_cons (se_wix T.d_RANKS rfl T.m_RANKS (se_ix hu1 (se_var 0) se_int)) sa_nil)) (by rfl))
    (sb_cons (ss_if (st_cmp (os_eq hu64) noX_eq (se_var 1) se_str (nomark _)) (sb_one (ss_ret (se_ix hu1 (se_var 0) se_int))) sb_nil)
    (sb_cons (ss_if (st_cmp (os_in hu66) noX_in (se_var 1) (se_tup (sa_cons se_str (sa_cons se_str sa_nil))) (by rfl)) (sb_one (ss_ret (se_var 1))) sb_nil)
    (sb_cons (ss_if (st_cmp (os_eq hu64) noX_eq (se_var 1) se_str (nomark _)) (sb_one (ss_ret (se_op os_add noX_add se_str (se_call (O.o_in_brackets) hk (pas_of (takes_of rfl rfl rfl rfl)) rfl T.m_in_brackets T.F_in_brackets.kp T.b_in_brackets (sa_cons (se_call (O.o_show_saying) hk (pas_of (takes_of rfl rfl rfl rfl)) rfl T.m_show_saying T.F_show_saying.kp T.b_show_saying (sa_cons (se_ix hu1 (se_var 0) se_int) sa_nil)) (sa_cons (se_cmp os_lt noX_lt (se_wix T.d_RANKS rfl T.m_RANKS (se_ix hu1 (se_ix hu1 (se_var 0) se_int) se_int)) (se_var 2) (nomark _)) sa_nil)))))) sb_nil)
    (sb_cons (ss_par 3 4 rfl nd rfl rfl (by decide) rfl rfl (sa_cons (se_wix T.d_RANKS rfl T.m_RANKS (se_ix hu1 (se_ix hu1 (se_var 0) se_int) se_int)) (sa_cons (se_wix T.d_RANKS rfl T.m_RANKS (se_ix hu1 (se_ix hu1 (se_var 0) se_int) se_int)) sa_nil)) (by rfl))
    (sb_cons (ss_set 5 nd rfl (by first | exact Or.inl rfl | exact Or.inr rfl) (se_call (O.o_in_brackets) hk (pas_of (takes_of rfl rfl rfl rfl)) rfl T.m_in_brackets T.F_in_brackets.kp T.b_in_brackets (sa_cons (se_call (O.o_show_saying) hk (pas_of (takes_of rfl rfl rfl rfl)) rfl T.m_show_saying T.F_show_saying.kp T.b_show_saying (sa_cons (se_ix hu1 (se_var 0) se_int) sa_nil)) (sa_cons (se_or (se_cmp os_lt noX_lt (se_var 3) (se_var 2) (nomark _)) (se_one (se_and (se_cmp (os_eq hu64) noX_eq (se_var 3) (se_var 2) (nomark _)) (se_one (se_cmp os_lt noX_lt (se_var 2) se_int (nomark _)))))) sa_nil))))
    (sb_one (ss_ret (se_op os_add noX_add (se_op os_add noX_add (se_op os_add noX_add (se_op os_add noX_add (se_var 5) se_str) (se_wix T.d_SIGNS rfl T.m_SIGNS (se_var 1))) se_str) (se_call (O.o_in_brackets) hk (pas_of (takes_of rfl rfl rfl rfl)) rfl T.m_in_brackets T.F_in_brackets.kp T.b_in_brackets (sa_cons (se_call (O.o_show_saying) hk (pas_of (takes_of rfl rfl rfl rfl)) rfl T.m_show_saying T.F_show_saying.kp T.b_show_saying (sa_cons (se_ix hu1 (se_var 0) se_int) sa_nil)) (sa_cons (se_cmp os_le noX_le (se_var 4) (se_var 2) (nomark _)) sa_nil))))))))))))
set_option maxHeartbeats 4000000 in
theorem sim_pieces_of {k : Nat} (T : Txt w K mg) (O : Oks P base T k) (cdv : Value) (A : Around) (outer : List Env) (s : Shared) (H : Hp) (E : XK) (hr : Room (k + 2) (A.deeper (PyProof.Rows.envOfC "pieces_of" (defScope s_pieces_of) s.heap.objs.size T.a_pieces_of cdv))) :
    SimB (cxOf (L2.CX P w) P w K mg base n_pieces_of "pieces_of" (defScope s_pieces_of) T.a_pieces_of cdv A outer s H E) (fun cls d _ H2 => E cls d H2) (defBody s_pieces_of) (b_pieces_of (call k)) := by
  have nd := sc_pieces_of.nd
  have hk : Room (k + 2) (A.deeper (PyProof.Rows.envOfC "pieces_of" (defScope s_pieces_of) s.heap.objs.size T.a_pieces_of cdv)) := hr.mono (by omega)
  have hu66 := hr.un
  have hu64 : (A.deeper (PyProof.Rows.envOfC "pieces_of" (defScope s_pieces_of) s.heap.objs.size T.a_pieces_of cdv)).units + 64 < cLine := by omega
  have hu1 : (A.deeper (PyProof.Rows.envOfC "pieces_of" (defScope s_pieces_of) s.heap.objs.size T.a_pieces_of cdv)).units + 1 < cLine := by omega
  have hu67 : (A.deeper (PyProof.Rows.envOfC "pieces_of" (defScope s_pieces_of) s.heap.objs.size T.a_pieces_of cdv)).units + 67 < cLine := by omega
  replace hu66 : (A.deeper (PyProof.Rows.envOfC "pieces_of" (defScope s_pieces_of) s.heap.objs.size T.a_pieces_of cdv)).units + 66 < cLine := by omega
  exact (sb_cons (ss_set 1 nd rfl (by first | exact Or.inl rfl | exact Or.inr rfl) (SimL.loc (sl_lst sa_nil)))
    (sb_cons (ss_set 2 nd rfl (by first | exact Or.inl rfl | exact Or.inr rfl) se_str)
    (sb_cons (ss_for (passes_of rfl) rfl (si_str (se_op os_add noX_add (se_var 0) se_str)) (sg_name 3 nd rfl (by first | exact Or.inl rfl | exact Or.inr rfl)) (sb_one (ss_if (st_cmp (os_in hu66) noX_in (se_var 3) (se_glob rfl T.m_LETTERS T.r_LETTERS (fun _ => T.v_LETTERS)) (by rfl)) (sb_one (ss_set 2 nd rfl (by first | exact Or.inl rfl | exact Or.inr rfl) (se_op os_add noX_add (se_var 2) (se_var 3)))) (sb_one (ss_if (st_cmp (os_in hu66) noX_in (se_var 3) se_str (by rfl)) (sb_cons (ss_expr (se_bm PySem.F.plainAttrs_list PySem.F.slot_list_extend PySem.F.type_list_extend ms_extend (se_var 1) (sa_cons (SimL.val (sl_comp rfl nd (si_tup (se_tup (sa_cons (se_var 2) (sa_cons (se_var 3) sa_nil)))) (blkOk_by (own := [("one", 4)]) (N := n_pieces_of) (sc := defScope s_pieces_of) (by decide +kernel)) (fun _ _ _ _ _ => (sg_name 4 nd rfl (by first | exact Or.inl rfl | exact Or.inr rfl))) (fun _ _ _ _ _ => (ts_one (st_cmp (os_nin hu66) noX_nin (se_var 4) (se_tup (sa_cons se_str (sa_cons se_str sa_nil))) (by rfl)))) (fun _ _ _ _ _ => (se_var 4)))) sa_nil)))
    (sb_one (ss_set 2 nd rfl (by first | exact Or.inl rfl | exact Or.inr rfl) se_str))) (sb_one (ss_ret se_non)))))))
    (sb_one (ss_ret (se_ice (se_var 1)))))))
set_option maxHeartbeats 4000000 in
theorem sim_read_saying {k : Nat} (T : Txt w K mg) (O : Oks P base T k) (cdv : Value) (A : Around) (outer : List Env) (s : Shared) (H : Hp) (E : XK) (hr : Room (k + 2) (A.deeper (PyProof.Rows.envOfC "read_saying" (defScope s_read_saying) s.heap.objs.size T.a_read_saying cdv))) :
    SimB (cxOf (L2.CX P w) P w K mg base n_read_saying "read_saying" (defScope s_read_saying) T.a_read_saying cdv A outer s H E) (fun cls d _ H2 => E cls d H2) (defBody s_read_saying) (b_read_saying (call k)) := by
  have nd := sc_read_saying.nd
  have hk : Room (k + 2) (A.deeper (PyProof.Rows.envOfC "read_saying" (defScope s_read_saying) s.heap.objs.size T.a_read_saying cdv)) := hr.mono (by omega)
  have hu66 := hr.un
  have hu64 : (A.deeper (PyProof.Rows.envOfC "read_saying" (defScope s_read_saying) s.heap.objs.size T.a_read_saying cdv)).units + 64 < cLine := by omega
  have hu1 : (A.deeper (PyProof.Rows.envOfC "read_saying" (defScope s_read_saying) s.heap.objs.size T.a_read_saying cdv)).units + 1 < cLine := by omega
  have hu67 : (A.deeper (PyProof.Rows.envOfC "read_saying" (defScope s_read_saying) s.heap.objs.size T.a_read_saying cdv)).units + 67 < cLine := by omega
  replace hu66 : (A.deeper (PyProof.Rows.envOfC "read_saying" (defScope s_read_saying) s.heap.objs.size T.a_read_saying cdv)).units + 66 < cLine := by omega
  exact (sb_cons (ss_set 1 nd rfl (by first | exact Or.inl rfl | exact Or.inr rfl) (se_if (st_val (se_callB cs_isi rfl T.z_isinstance (by decide +kernel) (sa_cons (se_var 0) (sa_cons (se_ty "str" rfl T.z_str (by decide +kernel)) sa_nil)))) (se_call (O.o_pieces_of) hk (pas_of (takes_of rfl rfl rfl rfl)) rfl T.m_pieces_of T.F_pieces_of.kp T.b_pieces_of (sa_cons (se_var 0) sa_nil)) se_non))
    (sb_cons (ss_if (st_cmp os_is noX_is (se_var 1) se_non (nomark _)) (sb_one (ss_raise (xk_NoText T) (hr.mono (by omega)) rfl (takes_of rfl rfl rfl rfl) rfl (sa_cons se_int sa_nil))) sb_nil)
    (sb_cons (ss_set 2 nd rfl (by first | exact Or.inl rfl | exact Or.inr rfl) (se_make (O.o1_Reader___init__) (hr.mono (by omega)) (pas_of (takes_of rfl rfl rfl rfl)) rfl T.mc_Reader T.mk_Reader T.b_Reader___init__ (sa_cons (se_var 1) sa_nil)))
    (sb_cons (ss_set 3 nd rfl (by first | exact Or.inl rfl | exact Or.inr rfl) (se_meth (O.o_Reader_of_rank) hk (pas_of (takes_of rfl rfl rfl rfl)) T.mc_Reader T.cl_Reader T.me_Reader_of_rank T.b_Reader_of_rank (se_var 2) (sa_cons se_int sa_nil)))
    (sb_cons (ss_if (SimW.t (sw_or (st_cmp (os_ne hu64) noX_ne (se_meth0 (O.o_Reader_now) hk (pas_of (takes_of rfl rfl rfl rfl)) T.mc_Reader T.cl_Reader T.me_Reader_now T.b_Reader_now (se_var 2)) se_str (nomark _)) (sw_or1 (st_not (st_val (se_call (O.o_is_saying) hk (pas_of (takes_of rfl rfl rfl rfl)) rfl T.m_is_saying T.F_is_saying.kp T.b_is_saying (sa_cons (se_var 3) sa_nil))))))) (sb_one (ss_expr (se_meth0 (O.o_Reader_refuse) hk (pas_of (takes_of rfl rfl rfl rfl)) T.mc_Reader T.cl_Reader T.me_Reader_refuse T.b_Reader_refuse (se_var 2)))) sb_nil)
    (sb_one (ss_ret (se_var 3))))))))
set_option maxHeartbeats 4000000 in
theorem sim_law_tape {k : Nat} (T : Txt w K mg) (O : Oks P base T k) (cdv : Value) (A : Around) (outer : List Env) (s : Shared) (H : Hp) (E : XK) (hr : Room (k + 2) (A.deeper (PyProof.Rows.envOfC "_law_tape" (defScope s_law_tape) s.heap.objs.size T.a__law_tape cdv))) :
    SimB (cxOf (L2.CX P w) P w K mg base n_law_tape "_law_tape" (defScope s_law_tape) T.a__law_tape cdv A outer s H E) (fun cls d _ H2 => E cls d H2) (defBody s_law_tape) (b_law_tape (call k)) := by
  have nd := sc_law_tape.nd
  have hk : Room (k + 2) (A.deeper (PyProof.Rows.envOfC "_law_tape" (defScope s_law_tape) s.heap.objs.size T.a__law_tape cdv)) := hr.mono (by omega)
  have hu66 := hr.un
  have hu64 : (A.deeper (PyProof.Rows.envOfC "_law_tape" (defScope s_law_tape) s.heap.objs.size T.a__law_tape cdv)).units + 64 < cLine := by omega
  have hu1 : (A.deeper (PyProof.Rows.envOfC "_law_tape" (defScope s_law_tape) s.heap.objs.size T.a__law_tape cdv)).units + 1 < cLine := by omega
  have hu67 : (A.deeper (PyProof.Rows.envOfC "_law_tape" (defScope s_law_tape) s.heap.objs.size T.a__law_tape cdv)).units + 67 < cLine := by omega
  replace hu66 : (A.deeper (PyProof.Rows.envOfC "_law_tape" (defScope s_law_tape) s.heap.objs.size T.a__law_tape cdv)).units + 66 < cLine := by omega
  exact (sb_one (ss_ret (SimD.loc (sd_disp (sp_cons se_str (se_slice (se_var 0) so_none (so_some se_int)) (sp_cons se_str se_int (sp_cons se_str se_int sp_nil)))))))
set_option maxHeartbeats 4000000 in
theorem sim_law_draw {k : Nat} (T : Txt w K mg) (O : Oks P base T k) (cdv : Value) (A : Around) (outer : List Env) (s : Shared) (H : Hp) (E : XK) (hr : Room (k + 2) (A.deeper (PyProof.Rows.envOfC "_law_draw" (defScope s_law_draw) s.heap.objs.size T.a__law_draw cdv))) :
    SimB (cxOf (L2.CX P w) P w K mg base n_law_draw "_law_draw" (defScope s_law_draw) T.a__law_draw cdv A outer s H E) (fun cls d _ H2 => E cls d H2) (defBody s_law_draw) (b_law_draw (call k)) := by
  have nd := sc_law_draw.nd
  have hk : Room (k + 2) (A.deeper (PyProof.Rows.envOfC "_law_draw" (defScope s_law_draw) s.heap.objs.size T.a__law_draw cdv)) := hr.mono (by omega)
  have hu66 := hr.un
  have hu64 : (A.deeper (PyProof.Rows.envOfC "_law_draw" (defScope s_law_draw) s.heap.objs.size T.a__law_draw cdv)).units + 64 < cLine := by omega
  have hu1 : (A.deeper (PyProof.Rows.envOfC "_law_draw" (defScope s_law_draw) s.heap.objs.size T.a__law_draw cdv)).units + 1 < cLine := by omega
  have hu67 : (A.deeper (PyProof.Rows.envOfC "_law_draw" (defScope s_law_draw) s.heap.objs.size T.a__law_draw cdv)).units + 67 < cLine := by omega
  replace hu66 : (A.deeper (PyProof.Rows.envOfC "_law_draw" (defScope s_law_draw) s.heap.objs.size T.a__law_draw cdv)).units + 66 < cLine := by omega
  exact (sb_cons (ss_if (st_cmp os_gt noX_gt (se_ix hu1 (se_var 0) se_str) se_int (nomark _)) (sb_cons (ss_set 8 nd rfl (by first | exact Or.inl rfl | exact Or.inr rfl) (se_op os_mod noX_mod (se_ix hu1 (se_var 0) se_str) (se_var 1)))
    (sb_cons (ss_store hu1 (se_op os_fdiv noX_fdiv (se_ix hu1 (se_var 0) se_str) (se_var 1)) (se_var 0) se_str)
    (sb_one (ss_ret (se_var 8))))) sb_nil)
    (sb_cons (ss_set 2 nd rfl (by first | exact Or.inl rfl | exact Or.inr rfl) (se_ix hu1 (se_var 0) se_str))
    (sb_cons (ss_store hu1 (se_op os_add noX_add (se_var 2) se_int) (se_var 0) se_str)
    (sb_cons (ss_set 3 nd rfl (by first | exact Or.inl rfl | exact Or.inr rfl) (se_or (se_ix hu1 (se_var 0) se_str) (se_one (SimL.val (sl_lst (sa_cons se_int sa_nil))))))
    (sb_cons (ss_set 4 nd rfl (by first | exact Or.inl rfl | exact Or.inr rfl) (se_ix hu1 (se_var 3) (se_op os_mod noX_mod (se_var 2) (se_callB cs_len rfl T.z_len (by decide +kernel) (sa_cons (se_var 3) sa_nil)))))
    (sb_cons (ss_if (SimW.t (sw_and (st_cmp os_ge noX_ge (se_var 4) (se_op os_pow noX_pow se_int se_int) (nomark _)) (sw_and1 (st_cmp os_lt noX_lt (se_var 2) (se_callB cs_len rfl T.z_len (by decide +kernel) (sa_cons (se_var 3) sa_nil)) (nomark _))))) (sb_cons (ss_store hu1 (se_op os_fdiv noX_fdiv (se_op os_sub noX_sub (se_var 4) (se_op os_pow noX_pow se_int se_int)) (se_var 1)) (se_var 0) se_str)
    (sb_one (ss_ret (se_op os_mod noX_mod (se_op os_sub noX_sub (se_var 4) (se_op os_pow noX_pow se_int se_int)) (se_var 1))))) sb_nil)
    (sb_cons (ss_set 5 nd rfl (by first | exact Or.inl rfl | exact Or.inr rfl) (SimL.val (sl_lst (sa_cons se_int (sa_cons se_int (sa_cons se_int (sa_cons se_int (sa_cons se_int (sa_cons se_int (sa_cons se_int sa_nil))))))))))
    (sb_cons (ss_set 6 nd rfl (by first | exact Or.inl rfl | exact Or.inr rfl) (se_ix hu1 (se_var 5) (se_op os_mod noX_mod (se_var 2) se_int)))
    (sb_cons (ss_set 7 nd rfl (by first | exact Or.inl rfl | exact Or.inr rfl) (se_op os_mod noX_mod (se_op os_add noX_add (se_op os_add noX_add (se_op os_add noX_add (se_op os_mul noX_mul (se_op os_mod noX_mod (se_var 4) (se_var 6)) se_int) (se_op os_mul noX_mul (se_op os_mul noX_mul se_int (se_var 2)) (se_var 2))) (se_op os_mul noX_mul se_int (se_var 2))) se_int) (se_var 6)))
    (sb_cons (ss_set 7 nd rfl (by first | exact Or.inl rfl | exact Or.inr rfl) (se_op os_mod noX_mod (se_op os_mul noX_mul (se_var 7) (se_op os_add noX_add (se_var 7) se_int)) (se_ix hu1 (se_var 5) (se_op os_mod noX_mod (se_op os_add noX_add (se_var 2) se_int) se_int))))
    (sb_cons (ss_set 8 nd rfl (by first | exact Or.inl rfl | exact Or.inr rfl) (se_op os_fdiv noX_fdiv (se_op os_mod noX_mod (se_op os_mul noX_mul (se_var 7) (se_var 7)) (se_var 6)) se_int))
    (sb_cons (ss_if (st_cmp os_gt noX_gt (se_var 1) (se_op os_pow noX_pow se_int se_int) (nomark _)) (sb_one (ss_set 8 nd rfl (by first | exact Or.inl rfl | exact Or.inr rfl) (se_op os_add noX_add (se_op os_mod noX_mod (se_var 8) (se_op os_pow noX_pow se_int se_int)) (se_op os_mul noX_mul (se_op os_pow noX_pow se_int se_int) (se_call (O.o__law_draw) hk (pas_of (takes_of rfl rfl rfl rfl)) rfl T.m__law_draw T.F__law_draw.kp T.b__law_draw (sa_cons (se_var 0) (sa_cons (se_op os_add noX_add (se_op os_fdiv noX_fdiv (se_var 1) (se_op os_pow noX_pow se_int se_int)) se_int) sa_nil))))))) sb_nil)
    (sb_one (ss_ret (se_op os_mod noX_mod (se_var 8) (se_var 1))))))))))))))))
set_option maxHeartbeats 4000000 in
theorem sim_law_words {k : Nat} (T : Txt w K mg) (O : Oks P base T k) (cdv : Value) (A : Around) (outer : List Env) (s : Shared) (H : Hp) (E : XK) (hr : Room (k + 2) (A.deeper (PyProof.Rows.envOfC "_law_words" (defScope s_law_words) s.heap.objs.size T.a__law_words cdv))) :
    SimB (cxOf (L2.CX P w) P w K mg base n_law_words "_law_words" (defScope s_law_words) T.a__law_words cdv A outer s H E) (fun cls d _ H2 => E cls d H2) (defBody s_law_words) (b_law_words (call k)) := by
  have nd := sc_law_words.nd
  have hk : Room (k + 2) (A.deeper (PyProof.Rows.envOfC "_law_words" (defScope s_law_words) s.heap.objs.size T.a__law_words cdv)) := hr.mono (by omega)
  have hu66 := hr.un
  have hu64 : (A.deeper (PyProof.Rows.envOfC "_law_words" (defScope s_law_words) s.heap.objs.size T.a__law_words cdv)).units + 64 < cLine := by omega
  have hu1 : (A.deeper (PyProof.Rows.envOfC "_law_words" (defScope s_law_words) s.heap.objs.size T.a__law_words cdv)).units + 1 < cLine := by omega
  have hu67 : (A.deeper (PyProof.Rows.envOfC "_law_words" (defScope s_law_words) s.heap.objs.size T.a__law_words cdv)).units + 67 < cLine := by omega
  replace hu66 : (A.deeper (PyProof.Rows.envOfC "_law_words" (defScope s_law_words) s.heap.objs.size T.a__law_words cdv)).units + 66 < cLine := by omega
  exact (sb_cons (ss_set 2 nd rfl (by first | exact Or.inl rfl | exact Or.inr rfl) se_str)
    (sb_cons (ss_set 3 nd rfl (by first | exact Or.inl rfl | exact Or.inr rfl) (se_bm PySem.F.plainAttrs_str PySem.F.slot_str_split PySem.F.type_str_split ms_split se_str (sa_cons se_str sa_nil)))
    (sb_cons (ss_set 4 nd rfl (by first | exact Or.inl rfl | exact Or.inr rfl) (se_bm PySem.F.plainAttrs_str PySem.F.slot_str_join PySem.F.type_str_join ms_join se_str (sa_cons (SimL.val (sl_comp rfl nd (si_range1 rfl T.z_range (sa_cons (se_op os_add noX_add se_int (se_call (O.o__law_draw) hk (pas_of (takes_of rfl rfl rfl rfl)) rfl T.m__law_draw T.F__law_draw.kp T.b__law_draw (sa_cons (se_var 0) (sa_cons se_int sa_nil)))) sa_nil)) (blkOk_by (own := [("_law_k", 6)]) (N := n_law_words) (sc := defScope s_law_words) (by decide +kernel)) (fun _ _ _ _ _ => (sg_name 6 nd rfl (by first | exact Or.inl rfl | exact Or.inr rfl))) (fun _ _ _ _ _ => ts_nil) (fun _ _ _ _ _ => (se_ix hu1 (se_var 2) (se_call (O.o__law_draw) hk pas_none rfl T.m__law_draw T.F__law_draw.kp T.b__law_draw (sa_cons (se_var 0) (sa_cons se_int sa_nil))))))) sa_nil)))
    (sb_cons (ss_set 5 nd rfl (by first | exact Or.inl rfl | exact Or.inr rfl) (SimL.loc (sl_lst sa_nil)))
    (sb_cons (ss_for (passes_of rfl) rfl (si_range1 rfl T.z_range (sa_cons (se_var 1) sa_nil)) (sg_name 6 nd rfl (by first | exact Or.inl rfl | exact Or.inr rfl)) (sb_cons (ss_set 7 nd rfl (by first | exact Or.inl rfl | exact Or.inr rfl) (se_ix hu1 (se_var 2) (se_call (O.o__law_draw) hk (pas_of (takes_of rfl rfl rfl rfl)) rfl T.m__law_draw T.F__law_draw.kp T.b__law_draw (sa_cons (se_var 0) (sa_cons se_int sa_nil)))))
    (sb_cons (ss_set 8 nd rfl (by first | exact Or.inl rfl | exact Or.inr rfl) (SimL.val (sl_lst (sa_cons (se_var 4) (sa_cons (se_op os_add noX_add (se_var 4) (se_var 7)) (sa_cons (se_op os_add noX_add (se_var 7) (se_var 4)) (sa_cons (se_var 7) (sa_cons (se_op os_add noX_add (se_op os_add noX_add (se_var 4) (se_var 7)) (se_var 7)) (sa_cons (se_ix hu1 (se_var 3) (se_call (O.o__law_draw) hk (pas_of (takes_of rfl rfl rfl rfl)) rfl T.m__law_draw T.F__law_draw.kp T.b__law_draw (sa_cons (se_var 0) (sa_cons se_int sa_nil)))) sa_nil)))))))))
    (sb_cons (ss_set 9 nd rfl (by first | exact Or.inl rfl | exact Or.inr rfl) (se_slice (se_ix hu1 (se_var 8) (se_call (O.o__law_draw) hk (pas_of (takes_of rfl rfl rfl rfl)) rfl T.m__law_draw T.F__law_draw.kp T.b__law_draw (sa_cons (se_var 0) (sa_cons se_int sa_nil)))) so_none (so_some se_int)))
    (sb_cons (ss_for (passes_of rfl) rfl (si_str (se_var 2)) (sg_name 10 nd rfl (by first | exact Or.inl rfl | exact Or.inr rfl)) (sb_one (ss_if (SimW.t (sw_or (st_cmp (os_in hu66) noX_in (se_var 9) (se_var 5) (by rfl)) (sw_or1 (st_cmp (os_in hu66) noX_in (se_var 9) (se_tup (sa_cons se_str (sa_cons se_str (sa_cons se_str (sa_cons se_str (sa_cons se_str (sa_cons se_str (sa_cons se_str sa_nil)))))))) (by rfl))))) (sb_one (ss_set 9 nd rfl (by first | exact Or.inl rfl | exact Or.inr rfl) (se_op os_add noX_add (se_slice (se_var 9) so_none (so_some se_int)) (se_var 10)))) sb_nil)))
    (sb_one (ss_expr (se_bm PySem.F.plainAttrs_list PySem.F.slot_list_append PySem.F.type_list_append ms_append (se_var 5) (sa_cons (se_var 9) sa_nil)))))))))
    (sb_one (ss_ret (se_ice (se_var 5)))))))))
set_option maxHeartbeats 4000000 in
theorem sim_law_saying {k : Nat} (T : Txt w K mg) (O : Oks P base T k) (cdv : Value) (A : Around) (outer : List Env) (s : Shared) (H : Hp) (E : XK) (hr : Room (k + 2) (A.deeper (PyProof.Rows.envOfC "_law_saying" (defScope s_law_saying) s.heap.objs.size T.a__law_saying cdv))) :
    SimB (cxOf (L2.CX P w) P w K mg base n_law_saying "_law_saying" (defScope s_law_saying) T.a__law_saying cdv A outer s H E) (fun cls d _ H2 => E cls d H2) (defBody s_law_saying) (b_law_saying (call k)) := by
  have nd := sc_law_saying.nd
  have hk : Room (k + 2) (A.deeper (PyProof.Rows.envOfC "_law_saying" (defScope s_law_saying) s.heap.objs.size T.a__law_saying cdv)) := hr.mono (by omega)
  have hu66 := hr.un
  have hu64 : (A.deeper (PyProof.Rows.envOfC "_law_saying" (defScope s_law_saying) s.heap.objs.size T.a__law_saying cdv)).units + 64 < cLine := by omega
  have hu1 : (A.deeper (PyProof.Rows.envOfC "_law_saying" (defScope s_law_saying) s.heap.objs.size T.a__law_saying cdv)).units + 1 < cLine := by omega
  have hu67 : (A.deeper (PyProof.Rows.envOfC "_law_saying" (defScope s_law_saying) s.heap.objs.size T.a__law_saying cdv)).units + 67 < cLine := by omega
  replace hu66 : (A.deeper (PyProof.Rows.envOfC "_law_saying" (defScope s_law_saying) s.heap.objs.size T.a__law_saying cdv)).units + 66 < cLine := by omega
  exact (sb_cons (ss_set 4 nd rfl (by first | exact Or.inl rfl | exact Or.inr rfl) (se_call (O.o__law_draw) hk (pas_of (takes_of rfl rfl rfl rfl)) rfl T.m__law_draw T.F__law_draw.kp T.b__law_draw (sa_cons (se_var 0) (sa_cons se_int sa_nil))))
    (sb_cons (ss_if (SimW.t (sw_or (st_cmp os_lt noX_lt (se_ix hu1 (se_var 2) se_int) se_int (nomark _)) (sw_or (st_cmp os_lt noX_lt (se_var 3) se_int (nomark _)) (sw_or1 (st_cmp os_lt noX_lt (se_var 4) se_int (nomark _)))))) (sb_one (ss_ret (se_ix hu1 (SimL.val (sl_lst (sa_cons (se_tup (sa_cons se_str sa_nil)) (sa_cons (se_tup (sa_cons se_str sa_nil)) (sa_cons (se_tup (sa_cons se_str (sa_cons (se_ix hu1 (se_var 1) (se_call (O.o__law_draw) hk (pas_of (takes_of rfl rfl rfl rfl)) rfl T.m__law_draw T.F__law_draw.kp T.b__law_draw (sa_cons (se_var 0) (sa_cons (se_callB cs_len rfl T.z_len (by decide +kernel) (sa_cons (se_var 1) sa_nil)) sa_nil)))) sa_nil))) sa_nil))))) (se_callB (cs_min rfl) rfl T.z_min (by decide +kernel) (sa_cons se_int (sa_cons (se_call (O.o__law_draw) hk (pas_of (takes_of rfl rfl rfl rfl)) rfl T.m__law_draw T.F__law_draw.kp T.b__law_draw (sa_cons (se_var 0) (sa_cons se_int sa_nil))) sa_nil)))))) sb_nil)
    (sb_cons (ss_store hu1 (se_op os_sub noX_sub (se_op os_sub noX_sub (se_ix hu1 (se_var 2) se_int) se_int) (se_callTy cs_int rfl T.z_int (by decide +kernel) (sa_cons (se_cmp os_gt noX_gt (se_var 4) se_int (nomark _)) sa_nil))) (se_var 2) se_int)
    (sb_cons (ss_if (st_cmp (os_eq hu64) noX_eq (se_var 4) se_int (nomark _)) (sb_one (ss_ret (se_tup (sa_cons se_str (sa_cons (se_call (O.o__law_saying) hk (pas_of (takes_of rfl rfl rfl rfl)) rfl T.m__law_saying T.F__law_saying.kp T.b__law_saying (sa_cons (se_var 0) (sa_cons (se_var 1) (sa_cons (se_var 2) (sa_cons (se_op os_sub noX_sub (se_var 3) se_int) sa_nil))))) sa_nil))))) sb_nil)
    (sb_cons (ss_set 5 nd rfl (by first | exact Or.inl rfl | exact Or.inr rfl) (se_ix hu1 (SimL.val (sl_lst (sa_cons se_str (sa_cons se_str (sa_cons se_str (sa_cons se_str (sa_cons se_str (sa_cons se_str sa_nil)))))))) (se_op os_sub noX_sub (se_var 4) se_int)))
    (sb_cons (ss_set 6 nd rfl (by first | exact Or.inl rfl | exact Or.inr rfl) (se_call (O.o__law_saying) hk (pas_of (takes_of rfl rfl rfl rfl)) rfl T.m__law_saying T.F__law_saying.kp T.b__law_saying (sa_cons (se_var 0) (sa_cons (se_var 1) (sa_cons (se_var 2) (sa_cons (se_op os_sub noX_sub (se_var 3) se_int) sa_nil))))))
    (sb_one (ss_ret (se_tup (sa_cons (se_var 5) (sa_cons (se_var 6) (sa_cons (se_call (O.o__law_saying) hk (pas_of (takes_of rfl rfl rfl rfl)) rfl T.m__law_saying T.F__law_saying.kp T.b__law_saying (sa_cons (se_var 0) (sa_cons (se_var 1) (sa_cons (se_var 2) (sa_cons (se_op os_sub noX_sub (se_var 3) se_int) sa_nil))))) sa_nil))))))))))))
set_option maxHeartbeats 4000000 in
theorem sim_law_rank {k : Nat} (T : Txt w K mg) (O : Oks P base T k) (cdv : Value) (A : Around) (outer : List Env) (s : Shared) (H : Hp) (E : XK) (hr : Room (k + 2) (A.deeper (PyProof.Rows.envOfC "_law_rank" (defScope s_law_rank) s.heap.objs.size T.a__law_rank cdv))) :
    SimB (cxOf (L2.CX P w) P w K mg base n_law_rank "_law_rank" (defScope s_law_rank) T.a__law_rank cdv A outer s H E) (fun cls d _ H2 => E cls d H2) (defBody s_law_rank) (b_law_rank (call k)) := by
  have nd := sc_law_rank.nd
  have hk : Room (k + 2) (A.deeper (PyProof.Rows.envOfC "_law_rank" (defScope s_law_rank) s.heap.objs.size T.a__law_rank cdv)) := hr.mono (by omega)
  have hu66 := hr.un
  have hu64 : (A.deeper (PyProof.Rows.envOfC "_law_rank" (defScope s_law_rank) s.heap.objs.size T.a__law_rank cdv)).units + 64 < cLine := by omega
  have hu1 : (A.deeper (PyProof.Rows.envOfC "_law_rank" (defScope s_law_rank) s.heap.objs.size T.a__law_rank cdv)).units + 1 < cLine := by omega
  have hu67 : (A.deeper (PyProof.Rows.envOfC "_law_rank" (defScope s_law_rank) s.heap.objs.size T.a__law_rank cdv)).units + 67 < cLine := by omega
  replace hu66 : (A.deeper (PyProof.Rows.envOfC "_law_rank" (defScope s_law_rank) s.heap.objs.size T.a__law_rank cdv)).units + 66 < cLine := by omega
  exact (sb_one (ss_ret (se_bm PySem.F.plainAttrs_dict PySem.F.slot_dict_get PySem.F.type_dict_get (ms_get hu1) (SimD.val (sd_disp (sp_cons se_str se_int (sp_cons se_str se_int (sp_cons se_str se_int (sp_cons se_str se_int (sp_cons se_str se_int sp_nil))))))) (sa_cons (se_ix hu1 (se_var 0) se_int) (sa_cons se_int sa_nil)))))
set_option maxHeartbeats 4000000 in
theorem sim_law_text {k : Nat} (T : Txt w K mg) (O : Oks P base T k) (cdv : Value) (A : Around) (outer : List Env) (s : Shared) (H : Hp) (E : XK) (hr : Room (k + 2) (A.deeper (PyProof.Rows.envOfC "_law_text" (defScope s_law_text) s.heap.objs.size T.a__law_text cdv))) :
    SimB (cxOf (L2.CX P w) P w K mg base n_law_text "_law_text" (defScope s_law_text) T.a__law_text cdv A outer s H E) (fun cls d _ H2 => E cls d H2) (defBody s_law_text) (b_law_text (call k)) := by
  have nd := sc_law_text.nd
  have hk : Room (k + 2) (A.deeper (PyProof.Rows.envOfC "_law_text" (defScope s_law_text) s.heap.objs.size T.a__law_text cdv)) := hr.mono (by omega)
  have hu66 := hr.un
  have hu64 : (A.deeper (PyProof.Rows.envOfC "_law_text" (defScope s_law_text) s.heap.objs.size T.a__law_text cdv)).units + 64 < cLine := by omega
  have hu1 : (A.deeper (PyProof.Rows.envOfC "_law_text" (defScope s_law_text) s.heap.objs.size T.a__law_text cdv)).units + 1 < cLine := by omega
  have hu67 : (A.deeper (PyProof.Rows.envOfC "_law_text" (defScope s_law_text) s.heap.objs.size T.a__law_text cdv)).units + 67 < cLine := by omega
  replace hu66 : (A.deeper (PyProof.Rows.envOfC "_law_text" (defScope s_law_text) s.heap.objs.size T.a__law_text cdv)).units + 66 < cLine := by omega
  exact (sb_cons (ss_set 1 nd rfl (by first | exact Or.inl rfl | exact Or.inr rfl) (se_ix hu1 (se_var 0) se_int))
    (sb_cons (ss_if (st_cmp (os_in hu66) noX_in (se_var 1) (se_tup (sa_cons se_str (sa_cons se_str sa_nil))) (by rfl)) (sb_one (ss_ret (se_var 1))) sb_nil)
    (sb_cons (ss_if (st_cmp (os_eq hu64) noX_eq (se_var 1) se_str (nomark _)) (sb_one (ss_ret (se_ix hu1 (se_var 0) se_int))) sb_nil)
    (sb_cons (And.left (ss_setComp 2 rfl nd rfl rfl (sw_true rfl rfl rfl (by decide +kernel)) (si_tup (se_slice (se_var 0) (so_some se_int) so_none)) (blkOk_by (own := [("_law_part", 8)]) (N := n_law_text) (sc := defScope s_law_text) (by decide +kernel)) (fun _ _ _ _ _ => (sg_name 8 nd rfl (by first | exact Or.inl rfl | exact Or.inr rfl))) (fun _ _ _ _ _ => ts_nil) (fun _ _ _ _ _ => (se_call (O.o__law_text) hk pas_none rfl T.m__law_text T.F__law_text.kp T.b__law_text (sa_cons (se_var 8) sa_nil)))))
    (sb_cons (And.left (ss_setComp 3 rfl nd rfl rfl (sw_true rfl rfl rfl (by decide +kernel)) (si_tup (se_slice (se_var 0) (so_some se_int) so_none)) (blkOk_by (own := [("_law_part", 8)]) (N := n_law_text) (sc := defScope s_law_text) (by decide +kernel)) (fun _ _ _ _ _ => (sg_name 8 nd rfl (by first | exact Or.inl rfl | exact Or.inr rfl))) (fun _ _ _ _ _ => ts_nil) (fun _ _ _ _ _ => (se_call (O.o__law_rank) hk pas_none rfl T.m__law_rank T.F__law_rank.kp T.b__law_rank (sa_cons (se_var 8) sa_nil)))))
    (sb_cons (And.left (ss_setComp 4 rfl nd rfl rfl (sw_true rfl rfl rfl (by decide +kernel)) (si_list (se_var 2)) (blkOk_by (own := [("_law_text_here", 9)]) (N := n_law_text) (sc := defScope s_law_text) (by decide +kernel)) (fun _ _ _ _ _ => (sg_name 9 nd rfl (by first | exact Or.inl rfl | exact Or.inr rfl))) (fun _ _ _ _ _ => ts_nil) (fun _ _ _ _ _ => (se_op os_add noX_add (se_op os_add noX_add se_str (se_var 9)) se_str))))
    (sb_cons (ss_if (st_cmp (os_eq hu64) noX_eq (se_var 1) se_str (nomark _)) (sb_one (ss_ret (se_op os_add noX_add se_str (se_if (st_cmp os_lt noX_lt (se_ix hu1 (se_var 3) se_int) se_int (nomark _)) (se_ix hu1 (se_var 4) se_int) (se_ix hu1 (se_var 2) se_int))))) sb_nil)
    (sb_cons (ss_set 5 nd rfl (by first | exact Or.inl rfl | exact Or.inr rfl) (se_call (O.o__law_rank) hk (pas_of (takes_of rfl rfl rfl rfl)) rfl T.m__law_rank T.F__law_rank.kp T.b__law_rank (sa_cons (se_var 0) sa_nil)))
    (sb_cons (ss_set 6 nd rfl (by first | exact Or.inl rfl | exact Or.inr rfl) (se_or (se_cmp os_lt noX_lt (se_ix hu1 (se_var 3) se_int) (se_var 5) (nomark _)) (se_one (se_and (se_cmp (os_eq hu64) noX_eq (se_ix hu1 (se_var 3) se_int) (se_var 5) (nomark _)) (se_one (se_cmp os_lt noX_lt (se_var 5) se_int (nomark _)))))))
    (sb_cons (ss_set 7 nd rfl (by first | exact Or.inl rfl | exact Or.inr rfl) (se_bm PySem.F.plainAttrs_dict PySem.F.slot_dict_get PySem.F.type_dict_get (ms_get hu1) (SimD.val (sd_disp (sp_cons se_str se_str (sp_cons se_str se_str sp_nil)))) (sa_cons (se_var 1) (sa_cons (se_op os_add noX_add (se_op os_add noX_add se_str (se_var 1)) se_str) sa_nil))))
    (sb_one (ss_ret (se_op os_add noX_add (se_op os_add noX_add (se_if (st_val (se_var 6)) (se_ix hu1 (se_var 4) se_int) (se_ix hu1 (se_var 2) se_int)) (se_var 7)) (se_if (st_cmp os_le noX_le (se_ix hu1 (se_var 3) se_int) (se_var 5) (nomark _)) (se_ix hu1 (se_var 4) se_int) (se_ix hu1 (se_var 2) se_int)))))))))))))))
set_option maxHeartbeats 4000000 in
theorem sim_law_loose {k : Nat} (T : Txt w K mg) (O : Oks P base T k) (cdv : Value) (A : Around) (outer : List Env) (s : Shared) (H : Hp) (E : XK) (hr : Room (k + 2) (A.deeper (PyProof.Rows.envOfC "_law_loose" (defScope s_law_loose) s.heap.objs.size T.a__law_loose cdv))) :
    SimB (cxOf (L2.CX P w) P w K mg base n_law_loose "_law_loose" (defScope s_law_loose) T.a__law_loose cdv A outer s H E) (fun cls d _ H2 => E cls d H2) (defBody s_law_loose) (b_law_loose (call k)) := by
  have nd := sc_law_loose.nd
  have hk : Room (k + 2) (A.deeper (PyProof.Rows.envOfC "_law_loose" (defScope s_law_loose) s.heap.objs.size T.a__law_loose cdv)) := hr.mono (by omega)
  have hu66 := hr.un
  have hu64 : (A.deeper (PyProof.Rows.envOfC "_law_loose" (defScope s_law_loose) s.heap.objs.size T.a__law_loose cdv)).units + 64 < cLine := by omega
  have hu1 : (A.deeper (PyProof.Rows.envOfC "_law_loose" (defScope s_law_loose) s.heap.objs.size T.a__law_loose cdv)).units + 1 < cLine := by omega
  have hu67 : (A.deeper (PyProof.Rows.envOfC "_law_loose" (defScope s_law_loose) s.heap.objs.size T.a__law_loose cdv)).units + 67 < cLine := by omega
  replace hu66 : (A.deeper (PyProof.Rows.envOfC "_law_loose" (defScope s_law_loose) s.heap.objs.size T.a__law_loose cdv)).units + 66 < cLine := by omega
  exact (sb_cons (ss_set 2 nd rfl (by first | exact Or.inl rfl | exact Or.inr rfl) (se_ix hu1 (se_var 1) se_int))
    (sb_cons (ss_if (st_cmp (os_in hu66) noX_in (se_var 2) (se_tup (sa_cons se_str (sa_cons se_str (sa_cons se_str sa_nil)))) (by rfl)) (sb_one (ss_set 3 nd rfl (by first | exact Or.inl rfl | exact Or.inr rfl) (se_if (st_cmp (os_eq hu64) noX_eq (se_var 2) se_str (nomark _)) (se_ix hu1 (se_var 1) (se_un us_neg se_int)) (se_var 2)))) (sb_one (ss_if (st_cmp (os_eq hu64) noX_eq (se_var 2) se_str (nomark _)) (sb_one (ss_set 3 nd rfl (by first | exact Or.inl rfl | exact Or.inr rfl) (se_op os_add noX_add (se_op os_add noX_add (se_op os_add noX_add se_str (se_ix hu1 (SimL.val (sl_lst (sa_cons se_str (sa_cons se_str sa_nil)))) (se_call (O.o__law_draw) hk (pas_of (takes_of rfl rfl rfl rfl)) rfl T.m__law_draw T.F__law_draw.kp T.b__law_draw (sa_cons (se_var 0) (sa_cons se_int sa_nil))))) (se_call (O.o__law_loose) hk (pas_of (takes_of rfl rfl rfl rfl)) rfl T.m__law_loose T.F__law_loose.kp T.b__law_loose (sa_cons (se_var 0) (sa_cons (se_ix hu1 (se_var 1) se_int) sa_nil)))) se_str))) (sb_cons (ss_set 4 nd rfl (by first | exact Or.inl rfl | exact Or.inr rfl) (se_bm PySem.F.plainAttrs_dict PySem.F.slot_dict_get PySem.F.type_dict_get (ms_get hu1) (SimD.val (sd_disp (sp_cons se_str se_str (sp_cons se_str se_str sp_nil)))) (sa_cons (se_var 2) (sa_cons (se_var 2) sa_nil))))
    (sb_cons (And.left (ss_setComp 5 rfl nd rfl rfl (sw_true rfl rfl rfl (by decide +kernel)) (si_tup (se_slice (se_var 1) (so_some se_int) so_none)) (blkOk_by (own := [("_law_part", 6)]) (N := n_law_loose) (sc := defScope s_law_loose) (by decide +kernel)) (fun _ _ _ _ _ => (sg_name 6 nd rfl (by first | exact Or.inl rfl | exact Or.inr rfl))) (fun _ _ _ _ _ => ts_nil) (fun _ _ _ _ _ => (se_op os_add noX_add (se_op os_add noX_add se_str (se_call (O.o__law_loose) hk pas_none rfl T.m__law_loose T.F__law_loose.kp T.b__law_loose (sa_cons (se_var 0) (sa_cons (se_var 6) sa_nil)))) (se_ix hu1 (SimL.val (sl_lst (sa_cons se_str (sa_cons se_str sa_nil)))) (se_call (O.o__law_draw) hk pas_none rfl T.m__law_draw T.F__law_draw.kp T.b__law_draw (sa_cons (se_var 0) (sa_cons se_int sa_nil))))))))
    (sb_one (ss_set 3 nd rfl (by first | exact Or.inl rfl | exact Or.inr rfl) (se_op os_add noX_add (se_op os_add noX_add (se_op os_add noX_add (se_op os_add noX_add (se_ix hu1 (se_var 5) se_int) (se_ix hu1 (SimL.val (sl_lst (sa_cons se_str (sa_cons se_str (sa_cons se_str sa_nil))))) (se_call (O.o__law_draw) hk (pas_of (takes_of rfl rfl rfl rfl)) rfl T.m__law_draw T.F__law_draw.kp T.b__law_draw (sa_cons (se_var 0) (sa_cons se_int sa_nil))))) (se_var 4)) (se_ix hu1 (SimL.val (sl_lst (sa_cons se_str (sa_cons se_str sa_nil)))) (se_call (O.o__law_draw) hk (pas_of (takes_of rfl rfl rfl rfl)) rfl T.m__law_draw T.F__law_draw.kp T.b__law_draw (sa_cons (se_var 0) (sa_cons se_int sa_nil))))) (se_ix hu1 (se_var 5) se_int)))))))))
    (sb_one (ss_ret (se_ix hu1 (SimL.val (sl_lst (sa_cons (se_var 3) (sa_cons (se_op os_add noX_add (se_op os_add noX_add se_str (se_var 3)) se_str) (sa_cons (se_op os_add noX_add (se_op os_add noX_add se_str (se_var 3)) se_str) sa_nil))))) (se_callB (cs_max rfl) rfl T.z_max (by decide +kernel) (sa_cons se_int (sa_cons (se_op os_sub noX_sub (se_call (O.o__law_draw) hk (pas_of (takes_of rfl rfl rfl rfl)) rfl T.m__law_draw T.F__law_draw.kp T.b__law_draw (sa_cons (se_var 0) (sa_cons se_int sa_nil))) se_int) sa_nil))))))))
set_option maxHeartbeats 4000000 in
theorem sim_law {k : Nat} (T : Txt w K mg) (O : Oks P base T k) (cdv : Value) (A : Around) (outer : List Env) (s : Shared) (H : Hp) (E : XK) (hr : Room (k + 2) (A.deeper (PyProof.Rows.envOfC "law" (defScope s_law) s.heap.objs.size T.a_law cdv))) (free : A.guards = some []) :
    SimB (cxOf (L2.CX P w) P w K mg base n_law "law" (defScope s_law) T.a_law cdv A outer s H E) (fun cls d _ H2 => E cls d H2) (defBody s_law) (b_law (call k)) := by
  have fr : (A.deeper (PyProof.Rows.envOfC "law" (defScope s_law) s.heap.objs.size T.a_law cdv)).guards = some [] := free
  have nd := sc_law.nd
  have hk : Room (k + 2) (A.deeper (PyProof.Rows.envOfC "law" (defScope s_law) s.heap.objs.size T.a_law cdv)) := hr.mono (by omega)
  have hu66 := hr.un
  have hu64 : (A.deeper (PyProof.Rows.envOfC "law" (defScope s_law) s.heap.objs.size T.a_law cdv)).units + 64 < cLine := by omega
  have hu1 : (A.deeper (PyProof.Rows.envOfC "law" (defScope s_law) s.heap.objs.size T.a_law cdv)).units + 1 < cLine := by omega
  have hu67 : (A.deeper (PyProof.Rows.envOfC "law" (defScope s_law) s.heap.objs.size T.a_law cdv)).units + 67 < cLine := by omega
  replace hu66 : (A.deeper (PyProof.Rows.envOfC "law" (defScope s_law) s.heap.objs.size T.a_law cdv)).units + 66 < cLine := by omega
  exact (sb_cons (ss_set 1 nd rfl (by first | exact Or.inl rfl | exact Or.inr rfl) (se_call (O.o__law_tape) hk (pas_of (takes_of rfl rfl rfl rfl)) rfl T.m__law_tape T.F__law_tape.kp T.b__law_tape (sa_cons (se_var 0) sa_nil)))
    (sb_cons (ss_set 2 nd rfl (by first | exact Or.inl rfl | exact Or.inr rfl) (se_call (O.o__law_words) hk (pas_of (takes_of rfl rfl rfl rfl)) rfl T.m__law_words T.F__law_words.kp T.b__law_words (sa_cons (se_var 1) (sa_cons se_int sa_nil))))
    (sb_cons (ss_forT (passes_of rfl) rfl rfl T.z_range (sg_name 3 nd rfl (by first | exact Or.inl rfl | exact Or.inr rfl)) (sbt_cons (SimS.tk (ss_set 4 nd rfl (by first | exact Or.inl rfl | exact Or.inr rfl) (se_call (O.o__law_saying) hk (pas_of (takes_of rfl rfl rfl rfl)) rfl T.m__law_saying T.F__law_saying.kp T.b__law_saying (sa_cons (se_var 1) (sa_cons (se_var 2) (sa_cons (SimL.loc (sl_lst (sa_cons (se_ix hu1 (SimL.val (sl_lst (sa_cons se_int (sa_cons se_int (sa_cons se_int sa_nil))))) (se_call (O.o__law_draw) hk (pas_of (takes_of rfl rfl rfl rfl)) rfl T.m__law_draw T.F__law_draw.kp T.b__law_draw (sa_cons (se_var 1) (sa_cons se_int sa_nil)))) sa_nil))) (sa_cons se_int sa_nil)))))))
    (sbt_cons (SimS.tk (ss_set 5 nd rfl (by first | exact Or.inl rfl | exact Or.inr rfl) (se_call (O.o__law_text) hk (pas_of (takes_of rfl rfl rfl rfl)) rfl T.m__law_text T.F__law_text.kp T.b__law_text (sa_cons (se_var 4) sa_nil))))
    (sbt_cons (SimS.tk (ss_for (passes_of rfl) rfl (si_range1 rfl T.z_range (sa_cons se_int sa_nil)) (sg_name 6 nd rfl (by first | exact Or.inl rfl | exact Or.inr rfl)) (sb_one (ss_if (SimW.t (sw_or (st_cmp (os_ne hu64) noX_ne (se_call (O.o_show_saying) hk (pas_of (takes_of rfl rfl rfl rfl)) rfl T.m_show_saying T.F_show_saying.kp T.b_show_saying (sa_cons (se_var 4) sa_nil)) (se_var 5) (nomark _)) (sw_or1 (st_cmp (os_ne hu64) noX_ne (se_callB (cs_reprD fr hu64) rfl T.z_repr (by decide +kernel) (sa_cons (se_call (O.o_read_saying) hk (pas_of (takes_of rfl rfl rfl rfl)) rfl T.m_read_saying T.F_read_saying.kp T.b_read_saying (sa_cons (se_var 5) sa_nil)) sa_nil)) (se_callB (cs_reprD fr hu64) rfl T.z_repr (by decide +kernel) (sa_cons (se_var 4) sa_nil)) (nomark _))))) (sb_one (ss_ret se_bl)) sb_nil))))
    (sbt_cons (sst_set 7 nd rfl (by first | exact Or.inl rfl | exact Or.inr rfl) (se_replS (se_var 5) lit_three (se_call (O.o__law_draw) hk (pas_of (takes_of rfl rfl rfl rfl)) rfl T.m__law_draw T.F__law_draw.kp T.b__law_draw (sa_cons (se_var 1) (sa_cons se_int sa_nil))) T.nbk (fun _ _ => rfl)))
    (sbt_cons (sst_set 7 nd rfl (by first | exact Or.inl rfl | exact Or.inr rfl) (se_replS (se_var 7) lit_two (se_call (O.o__law_draw) hk (pas_of (takes_of rfl rfl rfl rfl)) rfl T.m__law_draw T.F__law_draw.kp T.b__law_draw (sa_cons (se_var 1) (sa_cons se_int sa_nil))) T.nbk (fun _ _ => rfl)))
    (sbt_cons (SimS.tk (ss_set 8 nd rfl (by first | exact Or.inl rfl | exact Or.inr rfl) (se_call (O.o__law_saying) hk (pas_of (takes_of rfl rfl rfl rfl)) rfl T.m__law_saying T.F__law_saying.kp T.b__law_saying (sa_cons (se_var 1) (sa_cons (se_var 2) (sa_cons (SimL.loc (sl_lst (sa_cons se_int sa_nil))) (sa_cons se_int sa_nil)))))))
    (sbt_cons (SimS.tk (ss_if (st_cmp (os_ne hu64) noX_ne (se_call (O.o_read_saying) hk (pas_of (takes_of rfl rfl rfl rfl)) rfl T.m_read_saying T.F_read_saying.kp T.b_read_saying (sa_cons (se_op os_add noX_add (se_op os_add noX_add (se_op os_mulZ noX_mulZ se_str (se_call (O.o__law_draw) hk (pas_of (takes_of rfl rfl rfl rfl)) rfl T.m__law_draw T.F__law_draw.kp T.b__law_draw (sa_cons (se_var 1) (sa_cons se_int sa_nil)))) (se_var 7)) se_str) sa_nil)) (se_var 4) (nomark _)) (sb_one (ss_ret se_bl)) sb_nil))
    (sbt_one (SimS.tk (ss_if (st_cmp (os_ne hu64) noX_ne (se_call (O.o_read_saying) hk (pas_of (takes_of rfl rfl rfl rfl)) rfl T.m_read_saying T.F_read_saying.kp T.b_read_saying (sa_cons (se_call (O.o__law_loose) hk (pas_of (takes_of rfl rfl rfl rfl)) rfl T.m__law_loose T.F__law_loose.kp T.b__law_loose (sa_cons (se_var 1) (sa_cons (se_var 8) sa_nil))) sa_nil)) (se_var 8) (nomark _)) (sb_one (ss_ret se_bl)) sb_nil)))))))))))
    (sb_one (ss_ret se_bl)))))
set_option maxHeartbeats 4000000 in
theorem sim_Reader___init__ {k : Nat} (T : Txt w K mg) (O : Oks P base T k) (cdv : Value) (A : Around) (outer : List Env) (s : Shared) (H : Hp) (E : XK) (hr : Room (k + 2) (A.deeper (PyProof.Rows.envOfC "Reader.__init__" (defScope s_Reader___init__) s.heap.objs.size T.a_Reader___init__ cdv))) :
    SimB (cxOf (L2.CX P w) P w K mg base n_Reader___init__ "Reader.__init__" (defScope s_Reader___init__) T.a_Reader___init__ cdv A outer s H E) (fun cls d _ H2 => E cls d H2) (defBody s_Reader___init__) (b_Reader___init__ (call k)) := by
  have nd := sc_Reader___init__.nd
  have hk : Room (k + 2) (A.deeper (PyProof.Rows.envOfC "Reader.__init__" (defScope s_Reader___init__) s.heap.objs.size T.a_Reader___init__ cdv)) := hr.mono (by omega)
  have hu66 := hr.un
  have hu64 : (A.deeper (PyProof.Rows.envOfC "Reader.__init__" (defScope s_Reader___init__) s.heap.objs.size T.a_Reader___init__ cdv)).units + 64 < cLine := by omega
  have hu1 : (A.deeper (PyProof.Rows.envOfC "Reader.__init__" (defScope s_Reader___init__) s.heap.objs.size T.a_Reader___init__ cdv)).units + 1 < cLine := by omega
  have hu67 : (A.deeper (PyProof.Rows.envOfC "Reader.__init__" (defScope s_Reader___init__) s.heap.objs.size T.a_Reader___init__ cdv)).units + 67 < cLine := by omega
  replace hu66 : (A.deeper (PyProof.Rows.envOfC "Reader.__init__" (defScope s_Reader___init__) s.heap.objs.size T.a_Reader___init__ cdv)).units + 66 < cLine := by omega
  exact (sb_cons (ss_putF T.mc_Reader T.cl_Reader T.na_Reader_pieces (se_var 0) (se_var 1))
    (sb_cons (ss_putF T.mc_Reader T.cl_Reader T.na_Reader_at (se_var 0) se_int)
    (sb_cons (ss_putF T.mc_Reader T.cl_Reader T.na_Reader_opened (se_var 0) se_int)
    (sb_one (ss_putF T.mc_Reader T.cl_Reader T.na_Reader_denied (se_var 0) se_int)))))
set_option maxHeartbeats 4000000 in
theorem sim_Reader_now {k : Nat} (T : Txt w K mg) (O : Oks P base T k) (cdv : Value) (A : Around) (outer : List Env) (s : Shared) (H : Hp) (E : XK) (hr : Room (k + 2) (A.deeper (PyProof.Rows.envOfC "Reader.now" (defScope s_Reader_now) s.heap.objs.size T.a_Reader_now cdv))) :
    SimB (cxOf (L2.CX P w) P w K mg base n_Reader_now "Reader.now" (defScope s_Reader_now) T.a_Reader_now cdv A outer s H E) (fun cls d _ H2 => E cls d H2) (defBody s_Reader_now) (b_Reader_now (call k)) := by
  have nd := sc_Reader_now.nd
  have hk : Room (k + 2) (A.deeper (PyProof.Rows.envOfC "Reader.now" (defScope s_Reader_now) s.heap.objs.size T.a_Reader_now cdv)) := hr.mono (by omega)
  have hu66 := hr.un
  have hu64 : (A.deeper (PyProof.Rows.envOfC "Reader.now" (defScope s_Reader_now) s.heap.objs.size T.a_Reader_now cdv)).units + 64 < cLine := by omega
  have hu1 : (A.deeper (PyProof.Rows.envOfC "Reader.now" (defScope s_Reader_now) s.heap.objs.size T.a_Reader_now cdv)).units + 1 < cLine := by omega
  have hu67 : (A.deeper (PyProof.Rows.envOfC "Reader.now" (defScope s_Reader_now) s.heap.objs.size T.a_Reader_now cdv)).units + 67 < cLine := by omega
  replace hu66 : (A.deeper (PyProof.Rows.envOfC "Reader.now" (defScope s_Reader_now) s.heap.objs.size T.a_Reader_now cdv)).units + 66 < cLine := by omega
  exact (sb_one (ss_ret (se_if (st_cmp os_lt noX_lt (se_get T.mc_Reader T.cl_Reader T.na_Reader_at (se_var 0)) (se_callB cs_len rfl T.z_len (by decide +kernel) (sa_cons (se_get T.mc_Reader T.cl_Reader T.na_Reader_pieces (se_var 0)) sa_nil)) (nomark _)) (se_ix hu1 (se_get T.mc_Reader T.cl_Reader T.na_Reader_pieces (se_var 0)) (se_get T.mc_Reader T.cl_Reader T.na_Reader_at (se_var 0))) se_str)))
set_option maxHeartbeats 4000000 in
theorem sim_Reader_taken {k : Nat} (T : Txt w K mg) (O : Oks P base T k) (cdv : Value) (A : Around) (outer : List Env) (s : Shared) (H : Hp) (E : XK) (hr : Room (k + 2) (A.deeper (PyProof.Rows.envOfC "Reader.taken" (defScope s_Reader_taken) s.heap.objs.size T.a_Reader_taken cdv))) :
    SimB (cxOf (L2.CX P w) P w K mg base n_Reader_taken "Reader.taken" (defScope s_Reader_taken) T.a_Reader_taken cdv A outer s H E) (fun cls d _ H2 => E cls d H2) (defBody s_Reader_taken) (b_Reader_taken (call k)) := by
  have nd := sc_Reader_taken.nd
  have hk : Room (k + 2) (A.deeper (PyProof.Rows.envOfC "Reader.taken" (defScope s_Reader_taken) s.heap.objs.size T.a_Reader_taken cdv)) := hr.mono (by omega)
  have hu66 := hr.un
  have hu64 : (A.deeper (PyProof.Rows.envOfC "Reader.taken" (defScope s_Reader_taken) s.heap.objs.size T.a_Reader_taken cdv)).units + 64 < cLine := by omega
  have hu1 : (A.deeper (PyProof.Rows.envOfC "Reader.taken" (defScope s_Reader_taken) s.heap.objs.size T.a_Reader_taken cdv)).units + 1 < cLine := by omega
  have hu67 : (A.deeper (PyProof.Rows.envOfC "Reader.taken" (defScope s_Reader_taken) s.heap.objs.size T.a_Reader_taken cdv)).units + 67 < cLine := by omega
  replace hu66 : (A.deeper (PyProof.Rows.envOfC "Reader.taken" (defScope s_Reader_taken) s.heap.objs.size T.a_Reader_taken cdv)).units + 66 < cLine := by omega
  exact (sb_cons (ss_set 1 nd rfl (by first | exact Or.inl rfl | exact Or.inr rfl) (se_meth0 (O.o_Reader_now) hk (pas_of (takes_of rfl rfl rfl rfl)) T.mc_Reader T.cl_Reader T.me_Reader_now T.b_Reader_now (se_var 0)))
    (sb_cons (ss_putF T.mc_Reader T.cl_Reader T.na_Reader_at (se_var 0) (se_op os_add noX_add (se_get T.mc_Reader T.cl_Reader T.na_Reader_at (se_var 0)) se_int))
    (sb_one (ss_ret (se_var 1)))))
set_option maxHeartbeats 4000000 in
theorem sim_Reader_refuse {k : Nat} (T : Txt w K mg) (O : Oks P base T k) (cdv : Value) (A : Around) (outer : List Env) (s : Shared) (H : Hp) (E : XK) (hr : Room (k + 2) (A.deeper (PyProof.Rows.envOfC "Reader.refuse" (defScope s_Reader_refuse) s.heap.objs.size T.a_Reader_refuse cdv))) :
    SimB (cxOf (L2.CX P w) P w K mg base n_Reader_refuse "Reader.refuse" (defScope s_Reader_refuse) T.a_Reader_refuse cdv A outer s H E) (fun cls d _ H2 => E cls d H2) (defBody s_Reader_refuse) (b_Reader_refuse (call k)) := by
  have nd := sc_Reader_refuse.nd
  have hk : Room (k + 2) (A.deeper (PyProof.Rows.envOfC "Reader.refuse" (defScope s_Reader_refuse) s.heap.objs.size T.a_Reader_refuse cdv)) := hr.mono (by omega)
  have hu66 := hr.un
  have hu64 : (A.deeper (PyProof.Rows.envOfC "Reader.refuse" (defScope s_Reader_refuse) s.heap.objs.size T.a_Reader_refuse cdv)).units + 64 < cLine := by omega
  have hu1 : (A.deeper (PyProof.Rows.envOfC "Reader.refuse" (defScope s_Reader_refuse) s.heap.objs.size T.a_Reader_refuse cdv)).units + 1 < cLine := by omega
  have hu67 : (A.deeper (PyProof.Rows.envOfC "Reader.refuse" (defScope s_Reader_refuse) s.heap.objs.size T.a_Reader_refuse cdv)).units + 67 < cLine := by omega
  replace hu66 : (A.deeper (PyProof.Rows.envOfC "Reader.refuse" (defScope s_Reader_refuse) s.heap.objs.size T.a_Reader_refuse cdv)).units + 66 < cLine := by omega
  exact (sb_one (ss_raise (xk_NoText T) (hr.mono (by omega)) rfl (takes_of rfl rfl rfl rfl) rfl (sa_cons se_int sa_nil)))
set_option maxHeartbeats 4000000 in
theorem sim_Reader_single {k : Nat} (T : Txt w K mg) (O : Oks P base T k) (cdv : Value) (A : Around) (outer : List Env) (s : Shared) (H : Hp) (E : XK) (hr : Room (k + 2) (A.deeper (PyProof.Rows.envOfC "Reader.single" (defScope s_Reader_single) s.heap.objs.size T.a_Reader_single cdv))) :
    SimB (cxOf (L2.CX P w) P w K mg base n_Reader_single "Reader.single" (defScope s_Reader_single) T.a_Reader_single cdv A outer s H E) (fun cls d _ H2 => E cls d H2) (defBody s_Reader_single) (b_Reader_single (call k)) := by
  have nd := sc_Reader_single.nd
  have hk : Room (k + 2) (A.deeper (PyProof.Rows.envOfC "Reader.single" (defScope s_Reader_single) s.heap.objs.size T.a_Reader_single cdv)) := hr.mono (by omega)
  have hu66 := hr.un
  have hu64 : (A.deeper (PyProof.Rows.envOfC "Reader.single" (defScope s_Reader_single) s.heap.objs.size T.a_Reader_single cdv)).units + 64 < cLine := by omega
  have hu1 : (A.deeper (PyProof.Rows.envOfC "Reader.single" (defScope s_Reader_single) s.heap.objs.size T.a_Reader_single cdv)).units + 1 < cLine := by omega
  have hu67 : (A.deeper (PyProof.Rows.envOfC "Reader.single" (defScope s_Reader_single) s.heap.objs.size T.a_Reader_single cdv)).units + 67 < cLine := by omega
  replace hu66 : (A.deeper (PyProof.Rows.envOfC "Reader.single" (defScope s_Reader_single) s.heap.objs.size T.a_Reader_single cdv)).units + 66 < cLine := by omega
  exact (sb_cons (ss_set 1 nd rfl (by first | exact Or.inl rfl | exact Or.inr rfl) (se_meth0 (O.o_Reader_taken) hk (pas_of (takes_of rfl rfl rfl rfl)) T.mc_Reader T.cl_Reader T.me_Reader_taken T.b_Reader_taken (se_var 0)))
    (sb_cons (ss_if (st_cmp (os_eq hu64) noX_eq (se_var 1) se_str (nomark _)) (sb_one (ss_ret (se_meth0 (O.o_Reader_denial) hk (pas_of (takes_of rfl rfl rfl rfl)) T.mc_Reader T.cl_Reader T.me_Reader_denial T.b_Reader_denial (se_var 0)))) sb_nil)
    (sb_cons (ss_if (st_cmp (os_eq hu64) noX_eq (se_var 1) se_str (nomark _)) (sb_one (ss_ret (se_meth0 (O.o_Reader_bracketed) hk (pas_of (takes_of rfl rfl rfl rfl)) T.mc_Reader T.cl_Reader T.me_Reader_bracketed T.b_Reader_bracketed (se_var 0)))) sb_nil)
    (sb_cons (ss_if (st_cmp (os_in hu66) noX_in (se_var 1) (se_tup (sa_cons se_str (sa_cons se_str sa_nil))) (by rfl)) (sb_one (ss_ret (se_tup (sa_cons (se_var 1) sa_nil)))) sb_nil)
    (sb_cons (ss_if (st_not (st_val (se_call (O.o_is_word) hk (pas_of (takes_of rfl rfl rfl rfl)) rfl T.m_is_word T.F_is_word.kp T.b_is_word (sa_cons (se_var 1) sa_nil)))) (sb_one (ss_expr (se_meth0 (O.o_Reader_refuse) hk (pas_of (takes_of rfl rfl rfl rfl)) T.mc_Reader T.cl_Reader T.me_Reader_refuse T.b_Reader_refuse (se_var 0)))) sb_nil)
    (sb_one (ss_ret (se_tup (sa_cons se_str (sa_cons (se_var 1) sa_nil))))))))))
set_option maxHeartbeats 4000000 in
theorem sim_Reader_denial {k : Nat} (T : Txt w K mg) (O : Oks P base T k) (cdv : Value) (A : Around) (outer : List Env) (s : Shared) (H : Hp) (E : XK) (hr : Room (k + 2) (A.deeper (PyProof.Rows.envOfC "Reader.denial" (defScope s_Reader_denial) s.heap.objs.size T.a_Reader_denial cdv))) :
    SimB (cxOf (L2.CX P w) P w K mg base n_Reader_denial "Reader.denial" (defScope s_Reader_denial) T.a_Reader_denial cdv A outer s H E) (fun cls d _ H2 => E cls d H2) (defBody s_Reader_denial) (b_Reader_denial (call k)) := by
  have nd := sc_Reader_denial.nd
  have hk : Room (k + 2) (A.deeper (PyProof.Rows.envOfC "Reader.denial" (defScope s_Reader_denial) s.heap.objs.size T.a_Reader_denial cdv)) := hr.mono (by omega)
  have hu66 := hr.un
  have hu64 : (A.deeper (PyProof.Rows.envOfC "Reader.denial" (defScope s_Reader_denial) s.heap.objs.size T.a_Reader_denial cdv)).units + 64 < cLine := by omega
  have hu1 : (A.deeper (PyProof.Rows.envOfC "Reader.denial" (defScope s_Reader_denial) s.heap.objs.size T.a_Reader_denial cdv)).units + 1 < cLine := by omega
  have hu67 : (A.deeper (PyProof.Rows.envOfC "Reader.denial" (defScope s_Reader_denial) s.heap.objs.size T.a_Reader_denial cdv)).units + 67 < cLine := by omega
  replace hu66 : (A.deeper (PyProof.Rows.envOfC "Reader.denial" (defScope s_Reader_denial) s.heap.objs.size T.a_Reader_denial cdv)).units + 66 < cLine := by omega
  exact (sb_cons (ss_putF T.mc_Reader T.cl_Reader T.na_Reader_denied (se_var 0) (se_op os_add noX_add (se_get T.mc_Reader T.cl_Reader T.na_Reader_denied (se_var 0)) se_int))
    (sb_cons (ss_if (st_cmp os_ge noX_ge (se_get T.mc_Reader T.cl_Reader T.na_Reader_denied (se_var 0)) (se_glob rfl T.m_DEEPEST T.r_DEEPEST (fun _ => T.v_DEEPEST)) (nomark _)) (sb_one (ss_expr (se_meth0 (O.o_Reader_refuse) hk (pas_of (takes_of rfl rfl rfl rfl)) T.mc_Reader T.cl_Reader T.me_Reader_refuse T.b_Reader_refuse (se_var 0)))) sb_nil)
    (sb_cons (ss_set 1 nd rfl (by first | exact Or.inl rfl | exact Or.inr rfl) (se_tup (sa_cons se_str (sa_cons (se_meth0 (O.o_Reader_single) hk (pas_of (takes_of rfl rfl rfl rfl)) T.mc_Reader T.cl_Reader T.me_Reader_single T.b_Reader_single (se_var 0)) sa_nil))))
    (sb_cons (ss_putF T.mc_Reader T.cl_Reader T.na_Reader_denied (se_var 0) (se_op os_sub noX_sub (se_get T.mc_Reader T.cl_Reader T.na_Reader_denied (se_var 0)) se_int))
    (sb_one (ss_ret (se_var 1)))))))
set_option maxHeartbeats 4000000 in
theorem sim_Reader_bracketed {k : Nat} (T : Txt w K mg) (O : Oks P base T k) (cdv : Value) (A : Around) (outer : List Env) (s : Shared) (H : Hp) (E : XK) (hr : Room (k + 2) (A.deeper (PyProof.Rows.envOfC "Reader.bracketed" (defScope s_Reader_bracketed) s.heap.objs.size T.a_Reader_bracketed cdv))) :
    SimB (cxOf (L2.CX P w) P w K mg base n_Reader_bracketed "Reader.bracketed" (defScope s_Reader_bracketed) T.a_Reader_bracketed cdv A outer s H E) (fun cls d _ H2 => E cls d H2) (defBody s_Reader_bracketed) (b_Reader_bracketed (call k)) := by
  have nd := sc_Reader_bracketed.nd
  have hk : Room (k + 2) (A.deeper (PyProof.Rows.envOfC "Reader.bracketed" (defScope s_Reader_bracketed) s.heap.objs.size T.a_Reader_bracketed cdv)) := hr.mono (by omega)
  have hu66 := hr.un
  have hu64 : (A.deeper (PyProof.Rows.envOfC "Reader.bracketed" (defScope s_Reader_bracketed) s.heap.objs.size T.a_Reader_bracketed cdv)).units + 64 < cLine := by omega
  have hu1 : (A.deeper (PyProof.Rows.envOfC "Reader.bracketed" (defScope s_Reader_bracketed) s.heap.objs.size T.a_Reader_bracketed cdv)).units + 1 < cLine := by omega
  have hu67 : (A.deeper (PyProof.Rows.envOfC "Reader.bracketed" (defScope s_Reader_bracketed) s.heap.objs.size T.a_Reader_bracketed cdv)).units + 67 < cLine := by omega
  replace hu66 : (A.deeper (PyProof.Rows.envOfC "Reader.bracketed" (defScope s_Reader_bracketed) s.heap.objs.size T.a_Reader_bracketed cdv)).units + 66 < cLine := by omega
  exact (sb_cons (ss_putF T.mc_Reader T.cl_Reader T.na_Reader_opened (se_var 0) (se_op os_add noX_add (se_get T.mc_Reader T.cl_Reader T.na_Reader_opened (se_var 0)) se_int))
    (sb_cons (ss_if (st_cmp os_gt noX_gt (se_get T.mc_Reader T.cl_Reader T.na_Reader_opened (se_var 0)) (se_glob rfl T.m_MOST_OPEN T.r_MOST_OPEN (fun _ => T.v_MOST_OPEN)) (nomark _)) (sb_one (ss_expr (se_meth0 (O.o_Reader_refuse) hk (pas_of (takes_of rfl rfl rfl rfl)) T.mc_Reader T.cl_Reader T.me_Reader_refuse T.b_Reader_refuse (se_var 0)))) sb_nil)
    (sb_cons (ss_set 1 nd rfl (by first | exact Or.inl rfl | exact Or.inr rfl) (se_meth (O.o_Reader_of_rank) hk (pas_of (takes_of rfl rfl rfl rfl)) T.mc_Reader T.cl_Reader T.me_Reader_of_rank T.b_Reader_of_rank (se_var 0) (sa_cons se_int sa_nil)))
    (sb_cons (ss_if (st_cmp (os_ne hu64) noX_ne (se_meth0 (O.o_Reader_taken) hk (pas_of (takes_of rfl rfl rfl rfl)) T.mc_Reader T.cl_Reader T.me_Reader_taken T.b_Reader_taken (se_var 0)) se_str (nomark _)) (sb_one (ss_expr (se_meth0 (O.o_Reader_refuse) hk (pas_of (takes_of rfl rfl rfl rfl)) T.mc_Reader T.cl_Reader T.me_Reader_refuse T.b_Reader_refuse (se_var 0)))) sb_nil)
    (sb_cons (ss_putF T.mc_Reader T.cl_Reader T.na_Reader_opened (se_var 0) (se_op os_sub noX_sub (se_get T.mc_Reader T.cl_Reader T.na_Reader_opened (se_var 0)) se_int))
    (sb_one (ss_ret (se_var 1))))))))
set_option maxHeartbeats 4000000 in
theorem sim_Reader_of_rank {k : Nat} (T : Txt w K mg) (O : Oks P base T k) (cdv : Value) (A : Around) (outer : List Env) (s : Shared) (H : Hp) (E : XK) (hr : Room (k + 2) (A.deeper (PyProof.Rows.envOfC "Reader.of_rank" (defScope s_Reader_of_rank) s.heap.objs.size T.a_Reader_of_rank cdv))) :
    SimB (cxOf (L2.CX P w) P w K mg base n_Reader_of_rank "Reader.of_rank" (defScope s_Reader_of_rank) T.a_Reader_of_rank cdv A outer s H E) (fun cls d _ H2 => E cls d H2) (defBody s_Reader_of_rank) (b_Reader_of_rank (call k)) := by
  have nd := sc_Reader_of_rank.nd
  have hk : Room (k + 2) (A.deeper (PyProof.Rows.envOfC "Reader.of_rank" (defScope s_Reader_of_rank) s.heap.objs.size T.a_Reader_of_rank cdv)) := hr.mono (by omega)
  have hu66 := hr.un
  have hu64 : (A.deeper (PyProof.Rows.envOfC "Reader.of_rank" (defScope s_Reader_of_rank) s.heap.objs.size T.a_Reader_of_rank cdv)).units + 64 < cLine := by omega
  have hu1 : (A.deeper (PyProof.Rows.envOfC "Reader.of_rank" (defScope s_Reader_of_rank) s.heap.objs.size T.a_Reader_of_rank cdv)).units + 1 < cLine := by omega
  have hu67 : (A.deeper (PyProof.Rows.envOfC "Reader.of_rank" (defScope s_Reader_of_rank) s.heap.objs.size T.a_Reader_of_rank cdv)).units + 67 < cLine := by omega
  replace hu66 : (A.deeper (PyProof.Rows.envOfC "Reader.of_rank" (defScope s_Reader_of_rank) s.heap.objs.size T.a_Reader_of_rank cdv)).units + 66 < cLine := by omega
  exact (sb_cons (ss_if (st_cmp (os_eq hu64) noX_eq (se_var 1) se_int (nomark _)) (sb_one (ss_ret (se_meth0 (O.o_Reader_single) hk (pas_of (takes_of rfl rfl rfl rfl)) T.mc_Reader T.cl_Reader T.me_Reader_single T.b_Reader_single (se_var 0)))) sb_nil)
    (sb_cons (ss_set 2 nd rfl (by first | exact Or.inl rfl | exact Or.inr rfl) (se_meth (O.o_Reader_of_rank) hk (pas_of (takes_of rfl rfl rfl rfl)) T.mc_Reader T.cl_Reader T.me_Reader_of_rank T.b_Reader_of_rank (se_var 0) (sa_cons (se_op os_add noX_add (se_var 1) se_int) sa_nil)))
    (sb_cons (ss_while 1000000 (passes_of rfl) (st_cmp (os_eq hu64) noX_eq (se_wget2 T.d_RANKS rfl T.m_RANKS (se_wget2 T.d_WORDS rfl T.m_WORDS (se_meth0 (O.o_Reader_now) hk (pas_of (takes_of rfl rfl rfl rfl)) T.mc_Reader T.cl_Reader T.me_Reader_now T.b_Reader_now (se_var 0)) se_str) se_int) (se_var 1) (nomark _)) (sb_cons (ss_set 3 nd rfl (by first | exact Or.inl rfl | exact Or.inr rfl) (se_wix T.d_WORDS rfl T.m_WORDS (se_meth0 (O.o_Reader_taken) hk (pas_of (takes_of rfl rfl rfl rfl)) T.mc_Reader T.cl_Reader T.me_Reader_taken T.b_Reader_taken (se_var 0))))
    (sb_cons (ss_set 2 nd rfl (by first | exact Or.inl rfl | exact Or.inr rfl) (se_tup (sa_cons (se_var 3) (sa_cons (se_var 2) (sa_cons (se_meth (O.o_Reader_of_rank) hk (pas_of (takes_of rfl rfl rfl rfl)) T.mc_Reader T.cl_Reader T.me_Reader_of_rank T.b_Reader_of_rank (se_var 0) (sa_cons (se_op os_add noX_add (se_var 1) se_int) sa_nil)) sa_nil)))))
    (sb_one (ss_if (SimW.t (sw_and (st_cmp os_lt noX_lt (se_var 1) se_int (nomark _)) (sw_and1 (st_cmp (os_eq hu64) noX_eq (se_wget2 T.d_RANKS rfl T.m_RANKS (se_wget2 T.d_WORDS rfl T.m_WORDS (se_meth0 (O.o_Reader_now) hk (pas_of (takes_of rfl rfl rfl rfl)) T.mc_Reader T.cl_Reader T.me_Reader_now T.b_Reader_now (se_var 0)) se_str) se_int) (se_var 1) (nomark _))))) (sb_one (ss_expr (se_meth0 (O.o_Reader_refuse) hk (pas_of (takes_of rfl rfl rfl rfl)) T.mc_Reader T.cl_Reader T.me_Reader_refuse T.b_Reader_refuse (se_var 0)))) sb_nil)))))
    (sb_one (ss_ret (se_var 2))))))
set_option maxHeartbeats 0 in
theorem oks (T : Txt w K mg) : ∀ k, Oks P base T k
  | 0 => ⟨fn_bad (fun _ _ => rfl) _ _, fn_bad (fun _ _ => rfl) _ _, fn_bad (fun _ _ => rfl) _ _, fn_bad (fun _ _ => rfl) _ _, fn_bad (fun _ _ => rfl) _ _, fn_bad (fun _ _ => rfl) _ _, fn_bad (fun _ _ => rfl) _ _, fn_bad (fun _ _ => rfl) _ _, fn_bad (fun _ _ => rfl) _ _, fn_bad (fun _ _ => rfl) _ _, fn_bad (fun _ _ => rfl) _ _, fn_bad (fun _ _ => rfl) _ _, fn_bad (fun _ _ => rfl) _ _, fn_bad (fun _ _ => rfl) _ _, fnG_bad (fun _ _ => rfl) _ _, fn_bad (fun _ _ => rfl) _ _, fn_bad (fun _ _ => rfl) _ _, fn_bad (fun _ _ => rfl) _ _, fn_bad (fun _ _ => rfl) _ _, fn_bad (fun _ _ => rfl) _ _, fn_bad (fun _ _ => rfl) _ _, fn_bad (fun _ _ => rfl) _ _, fn_bad (fun _ _ => rfl) _ _, fn_bad (fun _ _ => rfl) _ _⟩
  | k + 1 => by
    have O := oks T k
    exact ⟨fn_sim T.F_is_word sc_is_word (fun _ _ _ => rfl) (sim_is_word T O),
      fn_sim T.F_parts_in sc_parts_in (fun _ _ _ => rfl) (sim_parts_in T O),
      fn_sim T.F_is_saying sc_is_saying (fun _ _ _ => rfl) (sim_is_saying T O),
      fn_sim T.F_in_brackets sc_in_brackets (fun _ _ _ => rfl) (sim_in_brackets T O),
      fn_sim T.F_show_saying sc_show_saying (fun _ _ _ => rfl) (sim_show_saying T O),
      fn_sim T.F_pieces_of sc_pieces_of (fun _ _ _ => rfl) (sim_pieces_of T O),
      fn_sim T.F_read_saying sc_read_saying (fun _ _ _ => rfl) (sim_read_saying T O),
      fn_sim T.F__law_tape sc_law_tape (fun _ _ _ => rfl) (sim_law_tape T O),
      fn_sim T.F__law_draw sc_law_draw (fun _ _ _ => rfl) (sim_law_draw T O),
      fn_sim T.F__law_words sc_law_words (fun _ _ _ => rfl) (sim_law_words T O),
      fn_sim T.F__law_saying sc_law_saying (fun _ _ _ => rfl) (sim_law_saying T O),
      fn_sim T.F__law_rank sc_law_rank (fun _ _ _ => rfl) (sim_law_rank T O),
      fn_sim T.F__law_text sc_law_text (fun _ _ _ => rfl) (sim_law_text T O),
      fn_sim T.F__law_loose sc_law_loose (fun _ _ _ => rfl) (sim_law_loose T O),
      fn_simG T.F_law sc_law (fun _ _ _ => rfl) (fun cdv A outer s H E fr hr => sim_law T O cdv A outer s H E hr fr),
      fn_sim T.F_Reader___init__ sc_Reader___init__ (fun _ _ _ => rfl) (sim_Reader___init__ T O),
      fn_sim T.F_Reader_now sc_Reader_now (fun _ _ _ => rfl) (sim_Reader_now T O),
      fn_sim T.F_Reader_taken sc_Reader_taken (fun _ _ _ => rfl) (sim_Reader_taken T O),
      fn_sim T.F_Reader_refuse sc_Reader_refuse (fun _ _ _ => rfl) (sim_Reader_refuse T O),
      fn_sim T.F_Reader_single sc_Reader_single (fun _ _ _ => rfl) (sim_Reader_single T O),
      fn_sim T.F_Reader_denial sc_Reader_denial (fun _ _ _ => rfl) (sim_Reader_denial T O),
      fn_sim T.F_Reader_bracketed sc_Reader_bracketed (fun _ _ _ => rfl) (sim_Reader_bracketed T O),
      fn_sim T.F_Reader_of_rank sc_Reader_of_rank (fun _ _ _ => rfl) (sim_Reader_of_rank T O),
      (call_sh k i_Reader___init__).symm ▸ O.o_Reader___init__⟩
end
end Law
namespace DL
open PySem PySem.Spec L2
structure Y {α : Type} (r : R α) (Q : α → Sto → Prop) : Prop where
  out : Pst r Q (fun _ _ => False)
theorem Y.ok {α : Type} {r : R α} {Q : α → Sto → Prop} (h : Y r Q) : ∃ a S, r = .ok a S ∧ Q a S := by
  cases r with
  | ok a S => exact ⟨a, S, rfl, h.out⟩
  | exc x S => exact h.out.elim
  | bad => exact h.out.elim
theorem Y.of {α : Type} {r : R α} {Q : α → Sto → Prop} {a : α} {S : Sto} (e : r = .ok a S) (h : Q a S) : Y r Q := by rw [e]; exact ⟨h⟩
theorem Y.mono {α : Type} {r : R α} {P Q : α → Sto → Prop} (h : Y r P) (q : ∀ a S, P a S → Q a S) : Y r Q := ⟨Pst.mono h.out q fun _ _ z => z⟩
theorem y_ok {α : Type} {a : α} {S : Sto} {Q : α → Sto → Prop} (h : Q a S) : Y (.ok a S) Q := ⟨h⟩
theorem Y.bad {α : Type} {Q : α → Sto → Prop} (h : Y (.bad : R α) Q) : False := h.out
theorem y_bind {α β : Type} {r : R α} {k : α → Sto → R β} {Q : β → Sto → Prop} (h : Y r fun a S => Y (k a S) Q) : Y (r.bind k) Q := by
  obtain ⟨a, S, rfl, h1⟩ := h.ok
  exact h1
theorem y_guard {α : Type} {c : Bool} {r : R α} {Q : α → Sto → Prop} (hc : c = true) (h : Y r Q) : Y (guard c r) Q := by rw [hc]; exact h
section
variable {d : En} {S : Sto} {Q : U → Sto → Prop} {QB : Bool → Sto → Prop} {QA : List U → Sto → Prop} {fa fb fc f : FE} {ta tb : FT} {u : U} {i : Nat}
theorem y_C (h : Q u S) : Y (fC u d S) Q := ⟨h⟩
theorem y_var (e : d[i]? = some (some u)) (h : Q u S) : Y (fVar i d S) Q := by unfold fVar; rw [e]; exact ⟨h⟩
theorem y_f2 {g : U → U → Sto → R U} (h : Y (fa d S) fun x S1 => Y (fb d S1) fun y S2 => Y (g x y S2) Q) : Y (f2 g fa fb d S) Q := y_bind (h.mono fun x S1 h1 => y_bind h1)
theorem y_f1 {g : U → Sto → R U} (h : Y (fa d S) fun x S1 => Y (g x S1) Q) : Y (f1 g fa d S) Q := y_bind h
def unB (u : U) (S : Sto) : R Bool := match u with
  | .bl b => .ok b S
  | _ => .bad
theorem y_asB {r : R U} (h : Y r fun u S1 => Y (unB u S1) QB) : Y (asB r) QB := y_bind h
theorem y_unB {b : Bool} (h : QB b S) : Y (unB (.bl b) S) QB := ⟨h⟩
theorem y_B (h : Y (f d S) fun u S1 => Y (unB u S1) QB) : Y (fB f d S) QB := y_asB h
theorem y_ch {g g' : U → U → Sto → R U} (h : Y (fa d S) fun x S1 => Y (fb d S1) fun y S2 => Y (g x y S2) fun z S3 => Y (unB z S3) fun b S4 => if b = true then Y (fc d S4) fun t S5 => Y (g' y t S5) Q else Q (.bl false) S4) : Y (fCh g g' fa fb fc d S) Q := by
  refine y_bind (h.mono fun x S1 h1 => y_bind (h1.mono fun y S2 h2 => y_bind (h2.mono fun z S3 h3 => ?_)))
  cases z with
  | bl b =>
    cases b with
    | true => exact y_bind (show Y (fc d S3) _ from h3.out)
    | false => exact ⟨h3.out⟩
  | _ => exact h3.out.elim
theorem y_tru (h : Y (f d S) fun u S1 => Y (oB (truU u S1) S1) QB) : Y (fTru f d S) QB := y_bind h
theorem y_tbl {b : Bool} (h : QB b S) : Y (oB (truU (.bl b) S) S) QB := ⟨h⟩
theorem y_and (h : Y (ta d S) fun b S1 => if b = true then Y (tb d S1) QB else QB false S1) : Y (fAnd ta tb d S) QB := y_bind (h.mono fun b S1 h1 => by cases b <;> first | exact h1 | exact ⟨h1⟩)
theorem y_or (h : Y (ta d S) fun b S1 => if b = true then QB true S1 else Y (tb d S1) QB) : Y (fOr ta tb d S) QB := y_bind (h.mono fun b S1 h1 => by cases b <;> first | exact h1 | exact ⟨h1⟩)
theorem y_not (h : Y (ta d S) fun b S1 => QB (!b) S1) : Y (fNot ta d S) QB := y_bind (h.mono fun b S1 h1 => ⟨h1⟩)
theorem y_andV (h : Y (fa d S) fun u S1 => Y (oB (truU u S1) S1) fun b S2 => if b = true then Y (fb d S2) Q else Q u S2) : Y (fAndV fa fb d S) Q := y_bind (h.mono fun u S1 h1 => by
  cases e : truU u S1 with
  | none => rw [e] at h1; exact h1.out.elim
  | some b => rw [e] at h1; cases b <;> first | exact h1.out | exact ⟨h1.out⟩)
theorem y_orV (h : Y (fa d S) fun u S1 => Y (oB (truU u S1) S1) fun b S2 => if b = true then Q u S2 else Y (fb d S2) Q) : Y (fOrV fa fb d S) Q := y_bind (h.mono fun u S1 h1 => by
  cases e : truU u S1 with
  | none => rw [e] at h1; exact h1.out.elim
  | some b => rw [e] at h1; cases b <;> first | exact h1.out | exact ⟨h1.out⟩)
theorem y_notV (h : Y (fa d S) fun u S1 => Y (oB (truU u S1) S1) fun b S2 => Q (.bl (!b)) S2) : Y (fNotV fa d S) Q := y_bind (h.mono fun u S1 h1 => by
  cases e : truU u S1 with
  | none => rw [e] at h1; exact h1.out.elim
  | some b => rw [e] at h1; exact ⟨h1.out⟩)
theorem y_if {α : Type} {Q : α → Sto → Prop} {x y : En → Sto → R α} (h : Y (ta d S) fun b S1 => if b = true then Y (x d S1) Q else Y (y d S1) Q) : Y (fIf ta x y d S) Q := y_bind (h.mono fun b S1 h1 => by cases b <;> exact h1)
theorem y_nil (h : QA [] S) : Y (aNil d S) QA := ⟨h⟩
theorem y_cons {g : FA} (h : Y (f d S) fun u S1 => Y (g d S1) fun us S2 => QA (u :: us) S2) : Y (aCons f g d S) QA := y_bind (h.mono fun u S1 h1 => y_bind (h1.mono fun us S2 h2 => ⟨h2⟩))
theorem y_tup {g : FA} (h : Y (g d S) fun us S1 => us.length ≤ sizeLine ∧ Q (.tup us) S1) : Y (fTup g d S) Q := y_bind (h.mono fun us S1 h1 => by rw [if_pos h1.1]; exact ⟨h1.2⟩)
theorem y_lst {g : FA} (h : Y (g d S) fun us S1 => us.length ≤ sizeLine ∧ QA us S1) : Y (aLst g d S) QA := y_bind (h.mono fun us S1 h1 => by rw [if_pos h1.1]; exact ⟨h1.2⟩)
theorem y_val {g : FA} (h : Y (g d S) fun us S1 => Q (.lst us) S1) : Y (fVal g d S) Q := y_bind (h.mono fun _ _ h1 => ⟨h1⟩)
theorem y_loc {g : FA} (h : Y (g d S) fun us S1 => Q (.loc S1.length) (S1 ++ [.lst us])) : Y (fLoc g d S) Q := y_bind (h.mono fun _ _ h1 => ⟨h1⟩)
theorem y_dval {g : FD} (h : Y (g d S) fun p S1 => Q (.dic p.1 p.2) S1) : Y (fDval g d S) Q := y_bind (h.mono fun _ _ h1 => ⟨h1⟩)
theorem y_dloc {g : FD} (h : Y (g d S) fun p S1 => Q (.loc S1.length) (S1 ++ [.dic p.1 p.2])) : Y (fDloc g d S) Q := y_bind (h.mono fun _ _ h1 => ⟨h1⟩)
theorem y_ice (h : Y (f d S) fun u S1 => ∃ n us, u = .loc n ∧ S1[n]? = some (.lst us) ∧ Q (.lst us) (S1.set n .dead)) : Y (fIce f d S) Q := y_bind (h.mono fun u S1 ⟨n, us, e, e2, h1⟩ => by
  subst e
  show Y (match S1[n]? with
    | some (.lst us) => .ok (.lst us) (S1.set n .dead)
    | some (.dic ks us) => .ok (.dic ks us) (S1.set n .dead)
    | _ => .bad) Q
  rw [e2]
  exact ⟨h1⟩)
theorem y_oNone {QO : Option Int → Sto → Prop} (h : QO none S) : Y (oNone d S) QO := ⟨h⟩
theorem y_oSome {QO : Option Int → Sto → Prop} (h : Y (f d S) fun u S1 => ∃ i, u = .int i ∧ QO (some i) S1) : Y (oSome f d S) QO := y_bind (h.mono fun u S1 ⟨i, e, h1⟩ => by subst e; exact ⟨h1⟩)
theorem y_sl {l h' : FO} (h : Y (f d S) fun u S1 => Y (l d S1) fun lo S2 => Y (h' d S2) fun hi S3 => Y (oU (slB u lo hi S3) S3) Q) : Y (fSl f l h' d S) Q := y_bind (h.mono fun u S1 h1 => y_bind (h1.mono fun lo S2 h2 => y_bind h2))
theorem y_oU {o : Option U} (e : o = some u) (h : Q u S) : Y (oU o S) Q := by rw [e]; exact ⟨h⟩
theorem y_A {α : Type} {g : List U → Sto → R α} {fa : FA} {Q : α → Sto → Prop} (h : Y (fa d S) fun us S1 => Y (g us S1) Q) : Y (fA g fa d S) Q := y_bind h
theorem y_call {n : Nat} {g : List U → Sto → R U} {fa : FA} (h : Y (fa d S) fun us S1 => (us.length == n) = true ∧ Y (g us S1) Q) : Y (fCall n g fa d S) Q := y_bind (h.mono fun us S1 h1 => y_guard h1.1 h1.2)
theorem y_M {T : String} {g : U → List U → Sto → R U} {fo : FE} {fa : FA} (h : Y (fo d S) fun u S1 => tyU T u S1 = true ∧ Y (fa d S1) fun us S2 => Y (g u us S2) Q) : Y (fM T g fo fa d S) Q := y_bind (h.mono fun u S1 h1 => y_guard h1.1 (y_bind h1.2))
theorem y_wget {tab : List (Str × U)} (h : Y (f d S) fun u S1 => ∃ z, u = .str z ∧ Q ((lookT tab z).getD .non) S1) : Y (fWget tab f d S) Q := y_bind (h.mono fun u S1 ⟨z, e, h1⟩ => by subst e; exact ⟨h1⟩)
theorem y_over {p : U → Option (List U)} (h : Y (f d S) fun u S1 => ∃ us, p u = some us ∧ QA us S1) : Y (aOver p f d S) QA := y_bind (h.mono fun u S1 ⟨us, e, h1⟩ => by
  show Y (match p u with
    | some us => .ok us S1
    | none => .bad) QA
  rw [e]
  exact ⟨h1⟩)
theorem y_rng1 {g : FA} (h : Y (g d S) fun us S1 => ∃ j, us = [.int j] ∧ -(2 ^ 62) ≤ j ∧ j < 2 ^ 62 ∧ QA (rngU 0 1 j.toNat) S1) : Y (aRng1 g d S) QA := y_bind (h.mono fun us S1 ⟨j, e, h1, h2, h3⟩ => by
  subst e
  exact y_guard (by rw [decide_eq_true h1, decide_eq_true h2]; rfl) ⟨h3⟩)
theorem y_addI {i j : Int} (h : Q (.int (i + j)) S) : Y (addU (.int i) (.int j) S) Q := ⟨h⟩
theorem y_addS {x y : Str} (hl : x.length + y.length ≤ sizeLine) (h : Q (.str (x ++ y)) S) : Y (addU (.str x) (.str y) S) Q := y_guard (decide_eq_true hl) ⟨h⟩
theorem y_subI {i j : Int} (h : Q (.int (i - j)) S) : Y (subU (.int i) (.int j) S) Q := ⟨h⟩
theorem y_mulI {i j : Int} (hm : mulOk i j = true) (h : Q (.int (i * j)) S) : Y (mulU (.int i) (.int j) S) Q := y_guard hm ⟨h⟩
theorem y_fdivI {i j : Int} (h1 : 0 < j) (h2 : j.natAbs.log2 < 9000) (h : Q (.int (i / j)) S) : Y (fdivU (.int i) (.int j) S) Q := y_guard (by simp [h1, h2]) ⟨h⟩
theorem y_modI {i j : Int} (h1 : 0 < j) (h : Q (.int (i % j)) S) : Y (modU (.int i) (.int j) S) Q := y_guard (decide_eq_true h1) ⟨h⟩
theorem y_powI {i j : Int} (h1 : 0 ≤ j) (h2 : j ≤ 1000000) (h3 : i.natAbs < 2 ^ 64) (h : Q (.int (i ^ j.toNat)) S) : Y (powU (.int i) (.int j) S) Q := y_guard (by simp [h1, h2, h3]) ⟨h⟩
theorem y_ltI {i j : Int} (h : Q (.bl (decide (i < j))) S) : Y (ltU (.int i) (.int j) S) Q := ⟨h⟩
theorem y_leI {i j : Int} (h : Q (.bl (decide (i ≤ j))) S) : Y (leU (.int i) (.int j) S) Q := ⟨h⟩
theorem y_gtI {i j : Int} (h : Q (.bl (decide (j < i))) S) : Y (gtU (.int i) (.int j) S) Q := ⟨h⟩
theorem y_geI {i j : Int} (h : Q (.bl (decide (j ≤ i))) S) : Y (geU (.int i) (.int j) S) Q := ⟨h⟩
theorem y_isN {x : U} (h : Q (.bl (isNon x)) S) : Y (isU x .non S) Q := ⟨h⟩
theorem y_isnN {x : U} (h : Q (.bl (!isNon x)) S) : Y (isnU x .non S) Q := ⟨h⟩
theorem y_eqF {x y : U} (hs : scalU x y = true) (h : Q (.bl (eqF x y)) S) : Y (eqU x y S) Q := by
  unfold eqU eqOk; rw [hs]; exact ⟨h⟩
theorem y_neF {x y : U} (hs : scalU x y = true) (h : Q (.bl (!eqF x y)) S) : Y (neU x y S) Q := by
  unfold neU eqOk; rw [hs]; exact ⟨h⟩
theorem y_eqI {i j : Int} (h : Q (.bl (decide (i = j))) S) : Y (eqU (.int i) (.int j) S) Q := y_eqF rfl h
theorem y_neI {i j : Int} (h : Q (.bl (!decide (i = j))) S) : Y (neU (.int i) (.int j) S) Q := y_neF rfl h
theorem y_eqB {i j : Bool} (h : Q (.bl (i == j)) S) : Y (eqU (.bl i) (.bl j) S) Q := y_eqF rfl h
theorem y_neB {i j : Bool} (h : Q (.bl (!(i == j))) S) : Y (neU (.bl i) (.bl j) S) Q := y_neF rfl h
theorem str_beq (x y : Str) : (x == y) = decide (x = y) := by
  by_cases q : x = y
  · subst q; simp
  · rw [decide_eq_false q]; simp [q]
theorem y_eqS {x y : Str} (h : Q (.bl (decide (x = y))) S) : Y (eqU (.str x) (.str y) S) Q := y_eqF rfl (show Q (.bl (x == y)) S by rw [str_beq]; exact h)
theorem y_neS {x y : Str} (h : Q (.bl (!decide (x = y))) S) : Y (neU (.str x) (.str y) S) Q := y_neF rfl (show Q (.bl (!(x == y))) S by rw [str_beq]; exact h)
theorem atI_mem {α : Type} {xs : List α} {i : Int} (h0 : 0 ≤ i) (h1 : i < xs.length) : ∃ x, x ∈ xs ∧ xs[i.toNat]? = some x ∧ atI xs i = some x := by
  obtain ⟨n, rfl⟩ := Int.eq_ofNat_of_zero_le h0
  have hn : n < xs.length := by omega
  refine ⟨xs[n], List.getElem_mem hn, ?_, atI_nat (List.getElem?_eq_getElem hn)⟩
  show xs[n]? = _
  exact List.getElem?_eq_getElem hn
theorem y_ixL {us : List U} {i : Int} (h0 : 0 ≤ i) (h1 : i < us.length) (h : ∀ u, u ∈ us → us[i.toNat]? = some u → Q u S) : Y (ixU (.lst us) (.int i) S) Q := by
  obtain ⟨x, hx, e1, e2⟩ := atI_mem h0 h1
  exact y_oU (show ixB (.lst us) (.int i) S = some x from e2) (h x hx e1)
theorem y_ixS {z : Str} {i : Int} (hz : z.length ≤ sizeLine) (h0 : 0 ≤ i) (h1 : i < z.cps.toList.length) (h : ∀ c, c ∈ z.cps.toList → z.cps.toList[i.toNat]? = some c → Q (.str ⟨#[c]⟩) S) : Y (ixU (.str z) (.int i) S) Q := by
  obtain ⟨x, hx, e1, e2⟩ := atI_mem h0 h1
  refine y_oU (u := .str ⟨#[x]⟩) ?_ (h x hx e1)
  show (if z.length ≤ sizeLine then (atI z.cps.toList i).map fun c => U.str ⟨#[c]⟩ else none) = _
  rw [if_pos hz, e2]
  rfl
end
structure EU where
  nx : En → Sto → Prop
  rt : U → Sto → Prop
  bk : En → Sto → Prop := fun _ _ => False
  ct : En → Sto → Prop := fun _ _ => False
  ex : Exc → En → Sto → Prop := fun _ _ _ => False
def wS (r : R Fl) (D : EU) : Prop := match r with
  | .ok (.nx d) S => D.nx d S
  | .ok (.rt u) S => D.rt u S
  | .ok (.bk d) S => D.bk d S
  | .ok (.ct d) S => D.ct d S
  | .ok (.ex x d) S => D.ex x d S
  | _ => False
structure WS (r : R Fl) (D : EU) : Prop where
  out : wS r D
section
variable {d : En} {S : Sto} {D : EU} {f : FE} {g h : FS} {t : FT} {i : Nat}
theorem ws_toS {α : Type} {r : R α} {k : α → Sto → R Fl} (h : Y r fun a S1 => WS (k a S1) D) : WS (toS d r k) D := by
  obtain ⟨a, S, rfl, h1⟩ := h.ok
  exact h1
theorem w_nop (h : D.nx d S) : WS (fNop d S) D := ⟨h⟩
theorem w_expr (h : Y (f d S) fun _ S1 => D.nx d S1) : WS (fExpr f d S) D := ws_toS (h.mono fun _ _ h1 => ⟨h1⟩)
theorem w_ret (h : Y (f d S) fun u S1 => D.rt u S1) : WS (fRet f d S) D := ws_toS (h.mono fun _ _ h1 => ⟨h1⟩)
theorem w_retN (h : D.rt .non S) : WS (fRetN d S) D := ⟨h⟩
theorem w_brk (h : D.bk d S) : WS (fBrk d S) D := ⟨h⟩
theorem w_ct (h : D.ct d S) : WS (fCt d S) D := ⟨h⟩
theorem w_set (h : Y (f d S) fun u S1 => D.nx (d.set i (some u)) S1) : WS (fSet i f d S) D := ws_toS (h.mono fun _ _ h1 => ⟨h1⟩)
theorem w_asg {gt : U → En → Option En} (h : Y (f d S) fun u S1 => ∃ d', gt u d = some d' ∧ D.nx d' S1) : WS (fAsg gt f d S) D := ws_toS (h.mono fun u S1 ⟨d', e, h1⟩ => by
  show WS (match gt u d with
    | some d' => .ok (.nx d') S1
    | none => .bad) D
  rw [e]
  exact ⟨h1⟩)
theorem w_seq (h1 : WS (g d S) { D with nx := fun d1 S1 => WS (h d1 S1) D }) : WS (fSeq g h d S) D := by
  unfold fSeq
  cases e : g d S with
  | ok fl S1 =>
    rw [e] at h1
    cases fl <;> first | exact h1.out | exact ⟨h1.out⟩
  | exc x S => rw [e] at h1; exact h1.out.elim
  | bad => rw [e] at h1; exact h1.out.elim
theorem w_if (h1 : Y (t d S) fun b S1 => if b = true then WS (g d S1) D else WS (h d S1) D) : WS (fIfS t g h d S) D := ws_toS (h1.mono fun b S1 h2 => by cases b <;> exact h2)
theorem w_store {fe fo fi : FE} (h : Y (fe d S) fun v S1 => Y (fo d S1) fun o S2 => Y (fi d S2) fun i S3 => ∃ S4, stU o i v S3 = some S4 ∧ D.nx d S4) : WS (fStore fe fo fi d S) D :=
  ws_toS (h.mono fun v S1 h1 => ws_toS (h1.mono fun o S2 h2 => ws_toS (h2.mono fun i S3 ⟨S4, e, h3⟩ => by
    show WS (match stU o i v S3 with
      | some S4 => .ok (.nx d) S4
      | none => .bad) D
    rw [e]
    exact ⟨h3⟩)))
theorem WS.mono {r : R Fl} {D D' : EU} (h : WS r D) (h1 : ∀ d S, D.nx d S → D'.nx d S) (h2 : ∀ u S, D.rt u S → D'.rt u S) (h3 : ∀ d S, D.bk d S → D'.bk d S) (h4 : ∀ d S, D.ct d S → D'.ct d S) (h5 : ∀ x d S, D.ex x d S → D'.ex x d S) : WS r D' := by
  cases r with
  | ok fl S => cases fl with
    | nx d => exact ⟨h1 d S h.out⟩
    | rt u => exact ⟨h2 u S h.out⟩
    | bk d => exact ⟨h3 d S h.out⟩
    | ct d => exact ⟨h4 d S h.out⟩
    | ex x d => exact ⟨h5 x d S h.out⟩
  | exc x S => exact h.out.elim
  | bad => exact h.out.elim
theorem w_loop {gt : U → En → Option En} {g : FS} {D : EU} (I : List U → En → Sto → Prop)
    (h : ∀ u us d S, I (u :: us) d S → ∃ d1, gt u d = some d1 ∧ WS (g d1 S) { D with nx := I us, ct := I us, bk := D.nx }) (h0 : ∀ d S, I [] d S → D.nx d S) : ∀ (us : List U) (d : En) (S : Sto), I us d S → WS (loopF gt g us d S) D
  | [], d, S, hi => ⟨h0 d S hi⟩
  | u :: us, d, S, hi => by
    obtain ⟨d1, e, hw⟩ := h u us d S hi
    unfold loopF
    rw [e]
    show WS (match g d1 S with
      | .ok (.nx d2) S1 => loopF gt g us d2 S1
      | .ok (.ct d2) S1 => loopF gt g us d2 S1
      | .ok (.bk d2) S1 => .ok (.nx d2) S1
      | r => r) D
    cases hg : g d1 S with
    | ok fl S1 =>
      rw [hg] at hw
      cases fl with
      | nx d2 => exact w_loop I h h0 us d2 S1 hw.out
      | ct d2 => exact w_loop I h h0 us d2 S1 hw.out
      | bk d2 => exact ⟨hw.out⟩
      | rt u => exact ⟨hw.out⟩
      | ex x d2 => exact ⟨hw.out⟩
    | exc x S => rw [hg] at hw; exact hw.out.elim
    | bad => rw [hg] at hw; exact hw.out.elim
theorem w_for {fi : FA} {gt : U → En → Option En} {g : FS} (h : Y (fi d S) fun us S1 => WS (loopF gt g us d S1) D) : WS (fFor fi gt g d S) D := ws_toS h
theorem y_comp {gt : U → En → Option En} {t : FT} {f : FE} {d : En} {Q : List U → Sto → Prop} (I : List U → List U → Sto → Prop)
    (h : ∀ u us acc S, I (u :: us) acc S → acc.length < sizeLine ∧ ∃ d1, gt u d = some d1 ∧ Y (t d1 S) fun b S1 => if b = true then Y (f d1 S1) fun y S2 => I us (acc ++ [y]) S2 else I us acc S1) (h0 : ∀ acc S, I [] acc S → Q acc S) :
    ∀ (us acc : List U) (S : Sto), I us acc S → Y (compF gt t f d us acc S) Q
  | [], acc, S, hi => ⟨h0 acc S hi⟩
  | u :: us, acc, S, hi => by
    obtain ⟨hl, d1, e, hy⟩ := h u us acc S hi
    unfold compF
    rw [e]
    obtain ⟨b, S1, e1, hy⟩ := hy.ok
    dsimp only
    rw [e1]
    cases b with
    | true =>
      obtain ⟨y, S2, e2, hy⟩ := Y.ok hy
      dsimp only
      rw [e2]
      exact y_guard (decide_eq_true hl) (y_comp I h h0 us _ S2 hy)
    | false => exact y_comp I h h0 us acc S1 hy
theorem y_aComp {fi : FA} {gt : U → En → Option En} {t : FT} {f : FE} {vs : List Nat} {Q : List U → Sto → Prop} (h : Y (fi d S) fun us S1 => Y (compF gt t f (wipeE d vs) us [] S1) Q) : Y (aComp fi gt t f vs d S) Q := y_bind h
theorem y_run {body : FS} {d : En} {S : Sto} {Q : U → Sto → Prop} (h : WS (body d S) { nx := fun _ S1 => Q .non S1, rt := Q }) : Y (runB body d S) Q := by
  unfold runB
  cases e : body d S with
  | ok fl S1 =>
    rw [e] at h
    cases fl with
    | nx d => exact ⟨h.out⟩
    | rt u => exact ⟨h.out⟩
    | bk d => exact h.out.elim
    | ct d => exact h.out.elim
    | ex x d => exact h.out.elim
  | exc x S => rw [e] at h; exact h.out.elim
  | bad => rw [e] at h; exact h.out.elim
theorem ite_b {b : Bool} {A B : Prop} (h1 : b = true → A) (h2 : b = false → B) : if b = true then A else B := by
  cases b with
  | true => exact h1 rfl
  | false => exact h2 rfl
end
theorem yY {α : Type} {r : R α} {Q : α → Sto → Prop} (h : Y r Q) : Y r Q := h
theorem wW {r : R Fl} {D : EU} (h : WS r D) : WS r D := h
end DL
namespace DL
open PySem PySem.Spec L2
def tapeO (cs : List Int) (sp lf : Int) : Ob := .dic [.inr "cells", .inr "spot", .inr "left"] [.lst (cs.map .int), .int sp, .int lf]
theorem ix_of {n : Nat} {S : Sto} {ks : List Key} {us : List U} {k : Str} {u : U} (h : S[n]? = some (.dic ks us)) (e : valU ks us (.inr k) = some u) : ixB (.loc n) (.str k) S = some u := by
  unfold ixB DL.listOf listM dictOf keyU
  simp only [h]
  exact e
theorem ix_left {n : Nat} {S : Sto} {cs : List Int} {sp lf : Int} (h : S[n]? = some (tapeO cs sp lf)) : ixB (.loc n) (.str "left") S = some (.int lf) := ix_of h rfl
theorem ix_spot {n : Nat} {S : Sto} {cs : List Int} {sp lf : Int} (h : S[n]? = some (tapeO cs sp lf)) : ixB (.loc n) (.str "spot") S = some (.int sp) := ix_of h rfl
theorem ix_cells {n : Nat} {S : Sto} {cs : List Int} {sp lf : Int} (h : S[n]? = some (tapeO cs sp lf)) : ixB (.loc n) (.str "cells") S = some (.lst (cs.map .int)) := ix_of h rfl
theorem st_of {n : Nat} {S : Sto} {ks : List Key} {us : List U} {k : Str} {v : U} {p : List Key × List U} (h : S[n]? = some (.dic ks us)) (hl : ks.length < sizeLine) (e : putU ks us (.inr k) v = p) : stU (.loc n) (.str k) v S = some (S.set n (.dic p.1 p.2)) := by
  unfold stU keyU
  simp only [h, e, if_pos hl]
theorem st_left {n : Nat} {S : Sto} {cs : List Int} {sp lf lf' : Int} (h : S[n]? = some (tapeO cs sp lf)) : stU (.loc n) (.str "left") (.int lf') S = some (S.set n (tapeO cs sp lf')) := st_of h (by decide) rfl
theorem st_spot {n : Nat} {S : Sto} {cs : List Int} {sp lf sp' : Int} (h : S[n]? = some (tapeO cs sp lf)) : stU (.loc n) (.str "spot") (.int sp') S = some (S.set n (tapeO cs sp' lf)) := st_of h (by decide) rfl
theorem y_ix {x y u : U} {S : Sto} {Q : U → Sto → Prop} (e : ixB x y S = some u) (h : Q u S) : Y (ixU x y S) Q := y_oU e h
def Tape (n : Nat) (b : Int) (S : Sto) : Prop := ∃ cs sp lf, S[n]? = some (tapeO cs sp lf) ∧ cs.length ≤ 63 ∧ 0 ≤ sp ∧ sp ≤ b ∧ 0 ≤ lf
def Fr (ms : List Nat) (S S' : Sto) : Prop := S.length ≤ S'.length ∧ ∀ m, m < S.length → m ∉ ms → S'[m]? = S[m]?
theorem Fr.refl (ms : List Nat) (S : Sto) : Fr ms S S := ⟨Nat.le_refl _, fun _ _ _ => rfl⟩
theorem Fr.trans {ms : List Nat} {S S1 S2 : Sto} (a : Fr ms S S1) (b : Fr ms S1 S2) : Fr ms S S2 := ⟨Nat.le_trans a.1 b.1, fun m h n => (b.2 m (Nat.lt_of_lt_of_le h a.1) n).trans (a.2 m h n)⟩
theorem Fr.more {ms ns : List Nat} {S S' : Sto} (a : Fr ms S S') (h : ∀ m ∈ ms, m ∈ ns) : Fr ns S S' := ⟨a.1, fun m hm hn => a.2 m hm fun q => hn (h m q)⟩
theorem Fr.set {n : Nat} {S : Sto} {o : Ob} {ms : List Nat} (h : n ∈ ms) : Fr ms S (S.set n o) := ⟨by simp, fun m _ hm => List.getElem?_set_ne fun e => hm (by rw [← e]; exact h)⟩
theorem Fr.push {S : Sto} {o : Ob} {ms : List Nat} : Fr ms S (S ++ [o]) := ⟨by simp, fun m hm _ => List.getElem?_append_left hm⟩
theorem Fr.get {ms : List Nat} {S S' : Sto} {m : Nat} {o : Ob} (a : Fr ms S S') (h : S[m]? = some o) (hm : m ∉ ms) : S'[m]? = some o := (a.2 m (List.getElem?_eq_some_iff.mp h).1 hm).trans h
theorem Tape.lt {n : Nat} {b : Int} {S : Sto} (t : Tape n b S) : n < S.length := by
  obtain ⟨_, _, _, h, _⟩ := t
  exact (List.getElem?_eq_some_iff.mp h).1
theorem Tape.mono {n : Nat} {b b' : Int} {S : Sto} (t : Tape n b S) (h : b ≤ b') : Tape n b' S := by
  obtain ⟨cs, sp, lf, h1, h2, h3, h4, h5⟩ := t
  exact ⟨cs, sp, lf, h1, h2, h3, by omega, h5⟩
theorem Tape.fr {n : Nat} {b : Int} {S S' : Sto} {ms : List Nat} (t : Tape n b S) (f : Fr ms S S') (h : n ∉ ms) : Tape n b S' := by
  obtain ⟨cs, sp, lf, h1, h2⟩ := t
  exact ⟨cs, sp, lf, f.get h1 h, h2⟩
def Drawn1 (n : Nat) (b many : Int) (S : Sto) (u : U) (S' : Sto) : Prop := ∃ r, u = .int r ∧ 0 ≤ r ∧ r < many ∧ Tape n b S' ∧ S'.length = S.length ∧ Fr [n] S S'
theorem mul_ok {i j : Int} {a b : Nat} (ha : i.natAbs < 2 ^ a) (hb : j.natAbs < 2 ^ b) (h : a + b ≤ 134217728) : mulOk i j = true := decide_eq_true (mulx_ok ha hb h)
theorem natAbs_lt {i : Int} {a : Nat} (h0 : 0 ≤ i) (h : i < 2 ^ a) : i.natAbs < 2 ^ a := by
  have : (i.natAbs : Int) < ((2 ^ a : Nat) : Int) := by
    rw [Int.natAbs_of_nonneg h0]
    have e : ((2 ^ a : Nat) : Int) = 2 ^ a := by simp
    rw [e]; exact h
  exact Int.ofNat_lt.mp this
end DL
namespace DL
theorem log_lt {m : Int} (h0 : 0 < m) (h1 : m < 2 ^ 200) : m.natAbs.log2 < 9000 := by
  have : m.natAbs < 2 ^ 200 := natAbs_lt (by omega) h1
  have := (Nat.log2_lt (by omega : m.natAbs ≠ 0)).mpr this
  omega
end DL
namespace DL
theorem y_orC {fa fb : FE} {d : En} {S : Sto} {Q : U → Sto → Prop} {cs : List Int} (hl : cs.length ≤ 63) (e : fa d S = .ok (.lst (cs.map .int)) S) (e2 : fb d S = .ok (.lst [.int 0]) S) (h : ∀ ds : List Int, 0 < ds.length → ds.length ≤ 63 → Q (.lst (ds.map .int)) S) : Y (fOrV fa fb d S) Q := by
  refine y_orV ?_
  rw [e]
  refine y_ok ?_
  cases cs with
  | nil => exact ⟨(show Y (fb d S) Q by rw [e2]; exact ⟨h [0] (by decide) (by decide)⟩)⟩
  | cons c cs => exact ⟨h (c :: cs) (by simp) hl⟩
theorem y_lenL {us : List U} {S : Sto} {Q : U → Sto → Prop} (h : Q (.int us.length) S) : Y (lenC [.lst us] S) Q := ⟨h⟩
theorem y_ixI {ds : List Int} {i : Int} {S : Sto} {Q : U → Sto → Prop} (h0 : 0 ≤ i) (h1 : i < ds.length) (h : ∀ c, Q (.int c) S) : Y (ixU (.lst (ds.map .int)) (.int i) S) Q := by
  refine y_ixL h0 (by rw [List.length_map]; exact h1) fun u hu _ => ?_
  obtain ⟨c, _, rfl⟩ := List.mem_map.mp hu
  exact h c
end DL
namespace DL
theorem w_ifP {t : FT} {g h : FS} {d : En} {S : Sto} {D : EU} (P : Bool → Prop) (h0 : Y (t d S) fun b S1 => S1 = S ∧ P b) (h1 : P true → WS (g d S) D) (h2 : P false → WS (h d S) D) : WS (fIfS t g h d S) D :=
  w_if (h0.mono fun b S1 ⟨e, p⟩ => by
    subst e
    cases b with
    | true => exact h1 p
    | false => exact h2 p)
end DL
namespace DL
open PySem PySem.Spec L2 TL
theorem len_cs (z : Str) : z.length = (tl z).length := by show z.cps.size = _; simp
theorem cs_take (z : Str) (k : Nat) : tl (cutS z none (some (k : Int))) = (tl z).take k := by
  show ((z.cps.toList.drop (HT.sIx z.length 0 none)).take (HT.sIx z.length z.length (some (k : Int)) - HT.sIx z.length 0 none)) = _
  rw [HT.sIx_none, HT.sIx_nat, List.drop_zero, Nat.sub_zero, len_cs]
  show List.take (min k (tl z).length) (tl z) = _
  rw [List.take_eq_take_iff]
  omega
theorem cs_join (ys : List Str) : tl (Txt.join "" ys) = (ys.map tl).flatten := by
  rw [join_eq, tl_join]
  show joinL [] _ = _
  generalize ys.map tl = zs
  induction zs with
  | nil => rfl
  | cons p r ih =>
    cases r with
    | nil => simp [joinL]
    | cons q r => show p ++ ([] ++ joinL [] (q :: r)) = _; rw [ih]; simp
def Low (z : Str) : Prop := ∀ c ∈ tl z, 97 ≤ c ∧ c ≤ 122
theorem Low.app {x y : Str} (a : Low x) (b : Low y) : Low (x ++ y) := fun c h => by
  rw [tl_append] at h
  exact (List.mem_append.mp h).elim (a c) (b c)
theorem Low.take {x : Str} (a : Low x) (k : Nat) : Low (cutS x none (some (k : Int))) := fun c h => by
  rw [cs_take] at h
  exact a c (List.mem_of_mem_take h)
theorem Low.one {x : Str} {c : Nat} (a : Low x) (h : c ∈ x.cps.toList) : Low ⟨#[c]⟩ := fun c' h' => by
  have : c' = c := by simpa using h'
  subst this
  exact a _ h
theorem Low.join {ys : List Str} (h : ∀ y ∈ ys, Low y) : Low (Txt.join "" ys) := fun c hc => by
  rw [cs_join] at hc
  obtain ⟨l, hl, hc⟩ := List.mem_flatten.mp hc
  obtain ⟨y, hy, rfl⟩ := List.mem_map.mp hl
  exact h y hy c hc
theorem Low.ok {x : Str} (a : Low x) : PyData.strOk x = true := by
  unfold PyData.strOk
  rw [Array.all_eq_true']
  intro c hc
  have := a c (by simpa using hc)
  exact decide_eq_true (by omega)
theorem len_app (x y : Str) : (x ++ y).length = x.length + y.length := by rw [len_cs, len_cs, len_cs, tl_append, List.length_append]
theorem len_take (x : Str) (k : Nat) : (cutS x none (some (k : Int))).length = min k x.length := by rw [len_cs, len_cs, cs_take, List.length_take]
theorem len_join {ys : List Str} (h : ∀ y ∈ ys, y.length = 1) : (Txt.join "" ys).length = ys.length := by
  rw [len_cs, cs_join, List.length_flatten, List.map_map]
  induction ys with
  | nil => rfl
  | cons y r ih =>
    rw [List.map_cons, List.sum_cons, ih fun z hz => h z (List.mem_cons_of_mem _ hz)]
    show (tl y).length + _ = _
    rw [← len_cs, h y List.mem_cons_self, List.length_cons]
    omega
def Pl (c : Nat) : Nat → U → Prop
  | _, .non => True
  | _, .bl _ => True
  | _, .int _ => True
  | _, .str z => PyData.strOk z = true ∧ z.length ≤ sizeLine
  | n + 1, .tup us => us.length ≤ c ∧ ∀ u ∈ us, Pl c n u
  | n + 1, .lst us => us.length ≤ c ∧ ∀ u ∈ us, Pl c n u
  | _, _ => False
theorem Pl.ups {c c' n m : Nat} (hc : c ≤ c') (h : n ≤ m) : ∀ {u : U}, Pl c n u → Pl c' m u := by
  induction n generalizing m with
  | zero =>
    intro u p
    cases u <;> first | trivial | exact p | exact p.elim | skip
    all_goals (unfold Pl at p ⊢; first | exact p | exact p.elim)
  | succ n ih =>
    intro u p
    obtain ⟨m, rfl⟩ : ∃ k, m = k + 1 := ⟨m - 1, by omega⟩
    cases u with
    | tup us => exact ⟨Nat.le_trans p.1 hc, fun u hu => ih (by omega) (p.2 u hu)⟩
    | lst us => exact ⟨Nat.le_trans p.1 hc, fun u hu => ih (by omega) (p.2 u hu)⟩
    | non => trivial
    | bl b => trivial
    | int i => trivial
    | str z => exact p
    | frz us => exact p.elim
    | dic a b => exact p.elim
    | loc n => exact p.elim
    | ty n => exact p.elim
    | exc a b c => exact p.elim
    | cl c => exact p.elim
theorem Pl.up {c n m : Nat} (h : n ≤ m) {u : U} (p : Pl c n u) : Pl c m u := Pl.ups (Nat.le_refl _) h p
theorem Pl.strs {c n : Nat} {z : Str} (h : PyData.strOk z = true ∧ z.length ≤ sizeLine) : Pl c n (.str z) := by cases n <;> (unfold Pl; exact h)
theorem Pl.dat : ∀ {c n : Nat} {u : U}, Pl c n u → ∃ d, toD u = some d ∧ d.canLay0 = true ∧ d.depth ≤ n := by
  intro c n
  induction n with
  | zero =>
    intro u p
    cases u with
    | non => exact ⟨_, rfl, rfl, Nat.le_refl _⟩
    | bl b => exact ⟨_, rfl, rfl, Nat.le_refl _⟩
    | int i => exact ⟨_, rfl, rfl, Nat.le_refl _⟩
    | str z => exact ⟨.str z, rfl, by unfold Pl at p; exact p.1, Nat.le_refl _⟩
    | _ => unfold Pl at p; exact p.elim
  | succ n ih =>
    have all : ∀ {us : List U}, (∀ u ∈ us, Pl c n u) → ∃ ds, toDs us = some ds ∧ PyData.canLayAll0 ds = true ∧ PyData.depthAll ds ≤ n := by
      intro us h
      induction us with
      | nil => exact ⟨[], rfl, rfl, Nat.zero_le _⟩
      | cons u r ih2 =>
        obtain ⟨d, e, a, b⟩ := ih (h u List.mem_cons_self)
        obtain ⟨ds, es, as, bs⟩ := ih2 fun v hv => h v (List.mem_cons_of_mem _ hv)
        refine ⟨d :: ds, by unfold toDs; rw [e, es], ?_, ?_⟩
        · unfold PyData.canLayAll0; rw [a, as]; rfl
        · unfold PyData.depthAll; omega
    intro u p
    cases u with
    | non => exact ⟨_, rfl, rfl, Nat.zero_le _⟩
    | bl b => exact ⟨_, rfl, rfl, Nat.zero_le _⟩
    | int i => exact ⟨_, rfl, rfl, Nat.zero_le _⟩
    | str z => exact ⟨.str z, rfl, p.1, Nat.zero_le _⟩
    | tup us =>
      obtain ⟨ds, e, a, b⟩ := all p.2
      exact ⟨.tuple ds, by unfold toD; rw [e]; rfl, by unfold PyData.canLay0; exact a, by unfold PyData.depth; omega⟩
    | lst us =>
      obtain ⟨ds, e, a, b⟩ := all p.2
      exact ⟨.list ds, by unfold toD; rw [e]; rfl, by unfold PyData.canLay0; exact a, by unfold PyData.depth; omega⟩
    | _ => unfold Pl at p; exact p.elim
theorem toDS_toD {u : U} {S : Sto} {d : PyData} (h : toD u = some d) : toDS u S = some d := by
  cases u <;> first | exact h | (unfold toD at h; cases h)
theorem Pl.shaped {c n : Nat} {u : U} (p : Pl c n u) (hn : n ≤ 64) (S : Sto) : ∃ d, toDS u S = some d ∧ SeqAt.shaped d = true := by
  obtain ⟨d, e, a, b⟩ := p.dat
  refine ⟨d, toDS_toD e, ?_⟩
  unfold SeqAt.shaped
  rw [a, decide_eq_true (by omega : d.depth ≤ 64)]
  rfl
end DL
namespace DL
open PySem PySem.Spec L2 TL
theorem sizeL : sizeLine = 16777216 := rfl
theorem rng_len (lo c : Int) (n : Nat) : (rngU lo c n).length = n := by unfold rngU; simp
theorem strsOf_map : ∀ ys : List Str, strsOf (ys.map .str) = some ys
  | [] => rfl
  | y :: ys => by
    show (strsOf (ys.map .str)).map (y :: ·) = _
    rw [strsOf_map ys]; rfl
theorem y_join1 {ys : List Str} {S : Sto} {Q : U → Sto → Prop} (h1 : ∀ y ∈ ys, y.length = 1) (h2 : ys.length ≤ 10000) (h : Q (.str (Txt.join "" ys)) S) : Y (joinM (.str "") [.lst (ys.map .str)] S) Q := by
  show Y (match strsOf (ys.map .str) with
      | some ys => guard (decide ((ys.map (·.length)).sum + ys.length * Str.length "" ≤ 16777216)) (.ok (.str (Txt.join "" ys)) S)
      | none => .bad) Q
  rw [strsOf_map]
  refine y_guard (decide_eq_true ?_) ⟨h⟩
  have e : (ys.map (·.length)).sum = ys.length := by
    clear h2 h
    induction ys with
    | nil => rfl
    | cons y r ih => rw [List.map_cons, List.sum_cons, ih fun z hz => h1 z (List.mem_cons_of_mem _ hz), h1 y List.mem_cons_self, List.length_cons]; omega
  rw [e, show Str.length "" = 0 from rfl]
  omega
theorem any_str (ws : List Str) (w : Str) : ((ws.map U.str).any fun z => eqF z (.str w)) = decide (w ∈ ws) := by
  induction ws with
  | nil => rfl
  | cons y r ih =>
    rw [List.map_cons, List.any_cons, ih]
    show ((y == w) || _) = _
    rw [str_beq, ← Bool.decide_or]
    by_cases q : y = w
    · subst q; simp
    · have q' : ¬ w = y := fun e => q e.symm
      simp [q, q']
theorem all_flat (ws : List Str) : (ws.map U.str).all flatU = true := by
  induction ws with
  | nil => rfl
  | cons y r ih => rw [List.map_cons, List.all_cons, ih]; rfl
theorem y_inL {f : Nat} {ws : List Str} {w : Str} {S : Sto} {Q : U → Sto → Prop} (hf : S[f]? = some (.lst (ws.map .str))) (h : Q (.bl (decide (w ∈ ws))) S) : Y (inU (.str w) (.loc f) S) Q := by
  have e : inB (.str w) (.loc f) S = some (decide (w ∈ ws)) := by
    unfold inB dictOf flatL DL.listOf listM
    simp only [hf]
    rw [all_flat, any_str]
    rfl
  unfold inU
  rw [e]
  exact ⟨h⟩
theorem y_inT {us : List U} (ws : List Str) {w : Str} {S : Sto} {Q : U → Sto → Prop} (e : us = ws.map .str) (h : Q (.bl (decide (w ∈ ws))) S) : Y (inU (.str w) (.tup us) S) Q := by
  subst e
  have e : inB (.str w) (.tup (ws.map .str)) S = some (decide (w ∈ ws)) := by
    unfold inB
    dsimp only
    rw [all_flat, any_str]
    rfl
  unfold inU
  rw [e]
  exact ⟨h⟩
theorem Fr.setNew {ms : List Nat} {S S1 : Sto} {f : Nat} {o : Ob} (a : Fr ms S S1) (h : S.length ≤ f) : Fr ms S (S1.set f o) :=
  ⟨by rw [List.length_set]; exact a.1, fun m hm hn => by rw [List.getElem?_set_ne (by omega)]; exact a.2 m hm hn⟩
theorem y_app {f : Nat} {us : List U} {u : U} {S : Sto} {Q : U → Sto → Prop} (hf : S[f]? = some (.lst us)) (hl : us.length < sizeLine) (h : Q .non (S.set f (.lst (us ++ [u])))) : Y (appM (.loc f) [u] S) Q := by
  unfold appM
  simp only [hf]
  exact y_guard (decide_eq_true hl) ⟨h⟩
theorem ty_list {f : Nat} {us : List U} {S : Sto} (hf : S[f]? = some (.lst us)) : tyU "list" (.loc f) S = true := by
  unfold tyU
  simp only [hf]
  rfl
theorem y_slS {z : Str} {lo hi : Option Int} {S : Sto} {Q : U → Sto → Prop} (hz : z.length ≤ sizeLine) (h : Q (.str (cutS z lo hi)) S) : Y (oU (slB (.str z) lo hi S) S) Q := y_oU (show (if z.length ≤ sizeLine then some (U.str (cutS z lo hi)) else none) = _ by rw [if_pos hz]) h
theorem sto_snoc {S : Sto} {o : Ob} : (S ++ [o])[S.length]? = some o := by simp
theorem len_ok {a : Nat} (h : Nat.ble a sizeLine = true) : a ≤ sizeLine := Nat.le_of_ble_eq_true h
theorem cut_pre (us : List U) (j : Nat) : cutU us none (some (j : Int)) = us.take j := by
  unfold cutU
  rw [HT.sIx_none, HT.sIx_nat, List.drop_zero, Nat.sub_zero]
  rw [List.take_eq_take_iff]; omega
theorem cut_suf (us : List U) (j : Nat) : cutU us (some (j : Int)) none = us.drop j := by
  unfold cutU
  rw [HT.sIx_none, HT.sIx_nat]
  have : us.drop (min j us.length) = us.drop j := by
    by_cases h : j ≤ us.length
    · rw [Nat.min_eq_left h]
    · rw [Nat.min_eq_right (by omega), List.drop_length, List.drop_eq_nil_of_le (by omega)]
  rw [this, List.take_of_length_le (by rw [List.length_drop]; omega)]
theorem y_slT {us : List U} {lo hi : Option Int} {S : Sto} {Q : U → Sto → Prop} (h : Q (.tup (cutU us lo hi)) S) : Y (oU (slB (.tup us) lo hi S) S) Q := y_oU (o := slB (.tup us) lo hi S) rfl h
theorem y_lenT {us : List U} {S : Sto} {Q : U → Sto → Prop} (h : Q (.int us.length) S) : Y (lenC [.tup us] S) Q := ⟨h⟩
theorem y_lenZ {z : Str} {S : Sto} {Q : U → Sto → Prop} (hz : z.length ≤ sizeLine) (h : Q (.int z.length) S) : Y (lenC [.str z] S) Q := by
  unfold lenC lenU
  dsimp only
  rw [if_pos hz]
  exact ⟨h⟩
def isStr : U → Bool
  | .str _ => true
  | _ => false
theorem y_isS {c n : Nat} {u : U} {S : Sto} {Q : U → Sto → Prop} (p : Pl c n u) (h : Q (.bl (isStr u)) S) : Y (isiC [u, .ty "str"] S) Q := by
  cases u with
  | non => exact ⟨h⟩
  | bl b => exact ⟨h⟩
  | int i => exact ⟨h⟩
  | str z => exact ⟨h⟩
  | tup us => exact ⟨h⟩
  | lst us => exact ⟨h⟩
  | _ => cases n <;> (unfold Pl at p; exact p.elim)
theorem Pl.tup {c n : Nat} {us : List U} (p : Pl c n (.tup us)) : us.length ≤ c ∧ ∃ m, n = m + 1 ∧ ∀ u ∈ us, Pl c m u := by
  cases n with
  | zero => unfold Pl at p; exact p.elim
  | succ n => exact ⟨p.1, n, rfl, p.2⟩
end DL
namespace DL
open PySem PySem.Spec L2 TL
inductive Op where
  | and | or | gives | same
def Op.s : Op → Str
  | .and => "and"
  | .or => "or"
  | .gives => "if"
  | .same => "same"
inductive Say where
  | yes | no
  | name (w : Str)
  | neg (a : Say)
  | bin (o : Op) (a b : Say)
namespace Say
def u : Say → U
  | yes => .tup [.str "yes"]
  | no => .tup [.str "no"]
  | name w => .tup [.str "name", .str w]
  | neg a => .tup [.str "not", a.u]
  | bin o a b => .tup [.str o.s, a.u, b.u]
def deep : Say → Nat
  | neg a => a.deep + 1
  | bin _ a b => max a.deep b.deep + 1
  | _ => 1
def parts : Say → Nat
  | neg a => a.parts + 1
  | bin _ a b => a.parts + b.parts + 1
  | _ => 1
def On (P : Str → Prop) : Say → Prop
  | name w => P w
  | neg a => a.On P
  | bin _ a b => a.On P ∧ b.On P
  | _ => True
theorem On.mono {P Q : Str → Prop} (h : ∀ w, P w → Q w) : ∀ {x : Say}, x.On P → x.On Q
  | yes, _ => trivial
  | no, _ => trivial
  | name w, p => h w p
  | neg a, p => On.mono (x := a) h p
  | bin _ a b, p => ⟨On.mono (x := a) h p.1, On.mono (x := b) h p.2⟩
theorem deep_pos (x : Say) : 1 ≤ x.deep := by cases x <;> simp [deep]
theorem parts_pos (x : Say) : 1 ≤ x.parts := by cases x <;> simp [parts]
end Say
theorem op_ok (o : Op) : PyData.strOk o.s = true ∧ o.s.length ≤ sizeLine := by cases o <;> decide +kernel
theorem Say.pl {x : Say} (h : x.On fun w => PyData.strOk w = true ∧ w.length ≤ sizeLine) : Pl 3 x.deep x.u := by
  have s1 : PyData.strOk "yes" = true ∧ Str.length "yes" ≤ sizeLine := by decide +kernel
  have s2 : PyData.strOk "no" = true ∧ Str.length "no" ≤ sizeLine := by decide +kernel
  have s3 : PyData.strOk "name" = true ∧ Str.length "name" ≤ sizeLine := by decide +kernel
  have s4 : PyData.strOk "not" = true ∧ Str.length "not" ≤ sizeLine := by decide +kernel
  have str : ∀ {n : Nat} {z : Str}, (PyData.strOk z = true ∧ z.length ≤ sizeLine) → Pl 3 n (.str z) := fun {n z} h => Pl.strs h
  induction x with
  | yes => exact ⟨(by decide : 1 ≤ 3), fun u hu => by rw [List.mem_singleton.mp hu]; exact str s1⟩
  | no => exact ⟨(by decide : 1 ≤ 3), fun u hu => by rw [List.mem_singleton.mp hu]; exact str s2⟩
  | name w =>
    refine ⟨(by decide : 2 ≤ 3), fun u hu => ?_⟩
    simp only [List.mem_cons, List.mem_nil_iff, or_false] at hu
    rcases hu with rfl | rfl
    · exact str s3
    · exact str h
  | neg a ih =>
    refine ⟨(by decide : 2 ≤ 3), fun u hu => ?_⟩
    simp only [List.mem_cons, List.mem_nil_iff, or_false] at hu
    rcases hu with rfl | rfl
    · exact str s4
    · exact ih h
  | bin o a b iha ihb =>
    refine ⟨(by decide : 3 ≤ 3), fun u hu => ?_⟩
    simp only [List.mem_cons, List.mem_nil_iff, or_false] at hu
    rcases hu with rfl | rfl | rfl
    · exact str (op_ok o)
    · exact (iha h.1).up (Nat.le_max_left _ _)
    · exact (ihb h.2).up (Nat.le_max_right _ _)
def cst : Nat → Int
  | 0 => 90
  | d + 1 => 90 + 2 * cst d
theorem cst_pos : ∀ d, 90 ≤ cst d
  | 0 => Int.le_refl _
  | d + 1 => by have := cst_pos d; unfold cst; omega
theorem y_min {i j : Int} {S : Sto} {Q : U → Sto → Prop} (h : Q (.int (if j < i then j else i)) S) : Y (minC [.int i, .int j] S) Q := ⟨h⟩
theorem y_max {i j : Int} {S : Sto} {Q : U → Sto → Prop} (h : Q (.int (if j > i then j else i)) S) : Y (maxC [.int i, .int j] S) Q := ⟨h⟩
theorem y_intB {b : Bool} {S : Sto} {Q : U → Sto → Prop} (h : Q (.int (if b then 1 else 0)) S) : Y (intC [.bl b] S) Q := ⟨h⟩
theorem ix_first {f : Nat} {S : Sto} {u : U} {us : List U} (h : S[f]? = some (.lst (u :: us))) : ixB (.loc f) (.int 0) S = some u := by
  unfold ixB DL.listOf listM
  simp only [h]
  exact atI_nat (j := 0) rfl
theorem st_first {f : Nat} {S : Sto} {u v : U} {us : List U} (h : S[f]? = some (.lst (u :: us))) : stU (.loc f) (.int 0) v S = some (S.set f (.lst (v :: us))) := by
  unfold stU
  simp only [h]
  rw [show ixN (u :: us).length 0 = some 0 from by unfold ixN; rw [if_pos (by decide), if_pos (by rw [List.length_cons]; omega)]; rfl]
  rfl
theorem y_lenS {ws : List Str} {S : Sto} {Q : U → Sto → Prop} (h : Q (.int (ws.length : Nat)) S) : Y (lenC [.lst (ws.map .str)] S) Q := y_lenL (by rw [List.length_map]; exact h)
theorem y_ixW {ws : List Str} {i : Int} {S : Sto} {Q : U → Sto → Prop} (h0 : 0 ≤ i) (h1 : i < (ws.length : Nat)) (h : ∀ w, w ∈ ws → ws[i.toNat]? = some w → Q (.str w) S) : Y (ixU (.lst (ws.map .str)) (.int i) S) Q := by
  refine y_ixL h0 (by rw [List.length_map]; exact h1) fun u hu e => ?_
  rw [List.getElem?_map] at e
  obtain ⟨w, hw, rfl⟩ := Option.map_eq_some_iff.mp e
  exact h w (List.mem_of_getElem? hw) hw
end DL
namespace DL
open PySem PySem.Spec L2 TL
end DL
namespace DL
open PySem PySem.Spec L2 TL
theorem y_compM {gt : U → En → Option En} {f : FE} {d : En} {S : Sto} {Q : List U → Sto → Prop} (g : U → U) : ∀ (us acc : List U), (∀ u ∈ us, ∃ d1, gt u d = some d1 ∧ Y (f d1 S) fun y S2 => y = g u ∧ S2 = S) → acc.length + us.length ≤ sizeLine → Q (acc ++ us.map g) S → Y (compF gt fYes f d us acc S) Q
  | [], acc, _, _, hq => by
    rw [List.map_nil, List.append_nil] at hq
    exact ⟨hq⟩
  | u :: us, acc, h, hl, hq => by
    obtain ⟨d1, e, hy⟩ := h u List.mem_cons_self
    obtain ⟨y, S2, e2, rfl, rfl⟩ := hy.ok
    rw [List.length_cons] at hl
    unfold compF
    rw [e]
    dsimp only [fYes]
    rw [e2]
    refine y_guard (decide_eq_true (by omega)) (y_compM g us _ (fun v hv => h v (List.mem_cons_of_mem _ hv)) (by rw [List.length_append, List.length_singleton]; omega) ?_)
    rw [List.append_assoc]
    exact hq
theorem boolsOf_map {α : Type} (g : α → Bool) : ∀ us : List α, boolsOf (us.map fun u => U.bl (g u)) = some (us.map g)
  | [] => rfl
  | u :: us => by
    show (boolsOf (us.map fun u => U.bl (g u))).map (g u :: ·) = _
    rw [boolsOf_map g us]; rfl
end DL
namespace DL
open PySem PySem.Spec L2
section
variable {d : En} {S : Sto} {Q : U → Sto → Prop} {QA : List U → Sto → Prop} {fa fb fe : FE} {ga : FA} {D : EU}
theorem y_mkx {c f : Str} (h : Y (ga d S) fun us S1 => ∃ u, us = [u] ∧ Q (.exc c f u) S1) : Y (fMkx c f ga d S) Q := y_bind (h.mono fun us S1 ⟨u, e, h1⟩ => by subst e; exact ⟨h1⟩)
theorem y_mkx1 {c f : Str} (h : Y (fa d S) fun u S1 => Q (.exc c f u) S1) : Y (fMkx c f (aCons fa aNil) d S) Q := y_mkx (y_cons (h.mono fun u S1 h1 => y_nil ⟨u, rfl, h1⟩))
theorem y_aAdd (h : Y (fa d S) fun x S1 => Y (fb d S1) fun y S2 => ∃ a b, listM x S2 = some a ∧ listM y S2 = some b ∧ a.length + b.length ≤ sizeLine ∧ QA (a ++ b) S2) : Y (aAdd fa fb d S) QA := y_bind (h.mono fun x S1 h1 => y_bind (h1.mono fun y S2 ⟨a, b, e1, e2, hl, h2⟩ => by
  show Y (match listM x S2, listM y S2 with
    | some a, some b => guard (decide (a.length + b.length ≤ sizeLine)) (.ok (a ++ b) S2)
    | _, _ => .bad) QA
  rw [e1, e2]
  exact y_guard (decide_eq_true hl) ⟨h2⟩))
theorem y_locG {g : FA} (h : Y (g d S) fun us S1 => ∀ n S', n = S1.length → S'[n]? = some (.lst us) → S'.length = S1.length + 1 → Fr [] S1 S' → Q (.loc n) S') : Y (fLoc g d S) Q := y_loc (h.mono fun us S1 h1 => h1 _ _ rfl sto_snoc (by simp) Fr.push)
theorem WS.nxt {r : R Fl} {d1 : En} {S1 : Sto} {g : FS} {D' : EU} (e : r = .ok (.nx d1) S1) (h : WS (g d1 S1) D') (hD : D.nx = fun d S => WS (g d S) D') : WS r D := by rw [e]; refine ⟨?_⟩; show D.nx d1 S1; rw [hD]; exact h
theorem WS.of {r : R Fl} {fl : Fl} (e : r = .ok fl S) (h : WS (.ok fl S) D) : WS r D := by rw [e]; exact h
end
mutual
theorem eqv_refl : ∀ d : PyData, d.canLay0 = true → PyData.eqv d d = true
  | .none, _ => by unfold PyData.eqv; rfl
  | .bool b, _ => by unfold PyData.eqv; simp
  | .int i, _ => by unfold PyData.eqv; simp
  | .str s, _ => by unfold PyData.eqv; simp
  | .list xs, h => by unfold PyData.eqv; exact eqvAll_refl xs (by unfold PyData.canLay0 at h; exact h)
  | .tuple xs, h => by unfold PyData.eqv; exact eqvAll_refl xs (by unfold PyData.canLay0 at h; exact h)
  | .dict kvs, h => by unfold PyData.canLay0 at h; cases h
theorem eqvAll_refl : ∀ ds : List PyData, PyData.canLayAll0 ds = true → PyData.eqvAll ds ds = true
  | [], _ => by unfold PyData.eqvAll; rfl
  | d :: ds, h => by
    unfold PyData.canLayAll0 at h
    rw [Bool.and_eq_true] at h
    unfold PyData.eqvAll
    rw [eqv_refl d h.1, eqvAll_refl ds h.2]
    rfl
end
end DL
namespace DL
open PySem PySem.Spec L2 TL
def addS (zs : List Str) (k : Str) : List Str := if k ∈ zs then zs else zs ++ [k]
theorem addS_mem {zs : List Str} {k x : Str} : x ∈ addS zs k ↔ x ∈ zs ∨ x = k := by
  unfold addS
  by_cases h : k ∈ zs
  · rw [if_pos h]; exact ⟨.inl, fun q => q.elim id fun e => e ▸ h⟩
  · rw [if_neg h, List.mem_append, List.mem_singleton]
namespace Say
def names : Say → List Str
  | name w => [w]
  | neg a => a.names
  | bin _ a b => a.names ++ b.names
  | _ => []
end Say
def Op.ev : Op → Bool → Bool → Bool
  | .and, a, b => a && b
  | .or, a, b => a || b
  | .gives, a, b => !a || b
  | .same, a, b => a == b
def Say.ev (ρ : Str → Bool) : Say → Bool
  | .yes => true
  | .no => false
  | .name w => ρ w
  | .neg a => !a.ev ρ
  | .bin o a b => o.ev (a.ev ρ) (b.ev ρ)
section
variable {d : En} {S : Sto} {Q : U → Sto → Prop} {QA : List U → Sto → Prop} {fa fb fe : FE} {ga : FA} {D : EU}
end
section
variable {d : En} {S : Sto} {D : EU} {n i : Nat} {g : List U → Sto → R U} {fa : FA}
end
section
variable {d d1 : En} {S : Sto} {D : EU} {gt : U → En → Option En} {g : FS} {u : U} {us : List U} {f : FE} {t : FT}
theorem w_ln (h : D.nx d S) : WS (loopF gt g [] d S) D := ⟨h⟩
theorem y_cc {acc : List U} {Q : List U → Sto → Prop} (e : gt u d = some d1) (hl : acc.length < sizeLine) (h : Y (f d1 S) fun y S2 => Y (compF gt fYes f d us (acc ++ [y]) S2) Q) : Y (compF gt fYes f d (u :: us) acc S) Q := by
  unfold compF
  rw [e]
  obtain ⟨y, S2, e2, h⟩ := Y.ok h
  dsimp only [fYes]
  rw [e2]
  exact y_guard (decide_eq_true hl) h
theorem y_cn {acc : List U} {Q : List U → Sto → Prop} (h : Q acc S) : Y (compF gt t f d [] acc S) Q := ⟨h⟩
end
theorem cut_one (u : U) (us : List U) : cutU (u :: us) (some 1) none = us := cut_suf (u :: us) 1
theorem y_neSame {x y : U} {S : Sto} {Q : U → Sto → Prop} {a : PyData} (hx : toDS x S = some a) (hy : toDS y S = some a) (hs : SeqAt.shaped a = true) (hn : scalU x y = false) (h : Q (.bl false) S) : Y (neU x y S) Q := by
  unfold neU eqOk
  rw [hn, hx, hy]
  refine y_guard (by rw [hs]; rfl) ?_
  rw [eqv_refl a (SeqAt.canLay_of_shaped hs)]
  exact ⟨h⟩
def fupd (ρ : Str → Bool) (k : Str) (b : Bool) : Str → Bool := fun z => if z = k then b else ρ z
end DL
namespace DL
open PySem PySem.Spec L2 TL PyProof.Rows
section
variable {S : Sto} {Q : U → Sto → Prop} {QA : List U → Sto → Prop}
abbrev Lit := Str × Bool
def litU (p : Lit) : U := .tup [.str p.1, .bl p.2]
end
end DL
namespace DL
open PySem PySem.Spec L2 TL PyProof.Rows
section
def clU (c : List Lit) : U := .tup (c.map litU)
variable {S : Sto} {Q : U → Sto → Prop} {QA : List U → Sto → Prop}
theorem y_compFX {α : Type} {gt : U → En → Option En} {t : FT} {g : FE} {d : En} {Q : List U → Sto → Prop} (f : α → U) (p : α → Bool) (h : α → U) : ∀ (xs : List α) (acc : List U), (∀ x ∈ xs, ∃ d1, gt (f x) d = some d1 ∧ Y (t d1 S) (fun b S2 => b = p x ∧ S2 = S) ∧ (p x = true → Y (g d1 S) fun y S2 => y = h x ∧ S2 = S)) → acc.length + xs.length ≤ sizeLine → Q (acc ++ (xs.filter p).map h) S → Y (compF gt t g d (xs.map f) acc S) Q
  | [], acc, _, _, q => by rw [List.filter_nil, List.map_nil, List.append_nil] at q; exact y_cn q
  | x :: xs, acc, hs, hl, q => by
    obtain ⟨d1, e1, h1, h2⟩ := hs x List.mem_cons_self
    rw [List.length_cons] at hl
    rw [List.map_cons]
    unfold compF
    rw [e1]
    have e2 : t d1 S = .ok (p x) S := by
      obtain ⟨b, S1, e2, hb, hS⟩ := h1.ok
      rw [e2, hb, hS]
    dsimp only
    rw [e2]
    cases hp : p x with
    | true =>
      have e3 : g d1 S = .ok (h x) S := by
        obtain ⟨y, S2, e3, hy, hS⟩ := (h2 hp).ok
        rw [e3, hy, hS]
      dsimp only
      rw [e3]
      refine y_guard (decide_eq_true (by omega)) (y_compFX f p h xs _ (fun z hz => hs z (List.mem_cons_of_mem _ hz)) (by rw [List.length_append, List.length_singleton]; omega) ?_)
      rw [List.filter_cons_of_pos hp, List.map_cons] at q
      rw [List.append_assoc]
      exact q
    | false =>
      rw [List.filter_cons_of_neg (by rw [hp]; decide)] at q
      exact y_compFX f p h xs acc (fun z hz => hs z (List.mem_cons_of_mem _ hz)) (by omega) q
theorem y_compX {α : Type} {gt : U → En → Option En} {g : FE} {d : En} {Q : List U → Sto → Prop} (f : α → U) (h : α → U) (xs : List α) (acc : List U) (hs : ∀ x ∈ xs, ∃ d1, gt (f x) d = some d1 ∧ Y (g d1 S) fun y S2 => y = h x ∧ S2 = S) (hl : acc.length + xs.length ≤ sizeLine) (q : Q (acc ++ xs.map h) S) : Y (compF gt fYes g d (xs.map f) acc S) Q := by
  refine y_compFX f (fun _ => true) h xs acc (fun x hx => ?_) hl (by rw [List.filter_eq_self.mpr fun _ _ => rfl]; exact q)
  obtain ⟨d1, e1, h1⟩ := hs x hx
  exact ⟨d1, e1, ⟨rfl, rfl⟩, fun _ => h1⟩
end
end DL
namespace DL
open PySem PySem.Spec L2 TL PyProof.Rows
section
variable {S : Sto} {d : En} {Q : U → Sto → Prop} {QA : List U → Sto → Prop} {D : EU} {E : Exc → Sto → Prop}
theorem y_get {c f : Str} {fe : FE} (h : Y (fe d S) fun u S1 => ∃ n fs v, u = .loc n ∧ S1[n]? = some (.ins c fs) ∧ getF fs f = some v ∧ Q v S1) : Y (fGet c f fe d S) Q := y_bind (h.mono fun u S1 ⟨n, fs, v, e, e1, e2, q⟩ => by
  subst e
  show Y (match S1[n]? with
    | some (.ins c' fs) => if c' = c then oU (getF fs f) S1 else .bad
    | _ => .bad) Q
  rw [e1]
  dsimp only
  rw [if_pos rfl, e2]
  exact ⟨q⟩)
theorem w_putF {c f : Str} {fo fe : FE} (h : Y (fe d S) fun v S1 => Y (fo d S1) fun u S2 => ∃ n fs, u = .loc n ∧ S2[n]? = some (.ins c fs) ∧ fs.length < 1000 ∧ D.nx d (S2.set n (.ins c (setF f v fs)))) : WS (fPutF c f fo fe d S) D :=
  ws_toS (h.mono fun v S1 h1 => ws_toS (h1.mono fun u S2 ⟨n, fs, e, e1, hl, q⟩ => by
    subst e
    show WS (match S2[n]? with
      | some (.ins c' fs) => if c' = c ∧ fs.length < 1000 then .ok (.nx d) (S2.set n (.ins c (setF f v fs))) else .bad
      | _ => .bad) D
    rw [e1]
    dsimp only
    rw [if_pos ⟨rfl, hl⟩]
    exact ⟨q⟩))
theorem y_make {c : Str} {n : Nat} {g : List U → Sto → R U} {fa : FA} (h : Y (fa d S) fun us S1 => (us.length + 1 == n) = true ∧ Y (g (.loc S1.length :: us) (S1 ++ [.ins c []])) fun u S2 => u = .non ∧ Q (.loc S1.length) S2) : Y (fMake c n g fa d S) Q :=
  y_bind (h.mono fun us S1 ⟨e, h1⟩ => y_guard e (y_bind (h1.mono fun u S2 ⟨e1, q⟩ => by subst e1; exact ⟨q⟩)))
theorem y_meth {c m : Str} {n : Nat} {g : List U → Sto → R U} {fo : FE} {fa : FA} (h : Y (fo d S) fun u S1 => isIns c m u S1 = true ∧ Y (fa d S1) fun us S2 => (us.length + 1 == n) = true ∧ Y (g (u :: us) S2) Q) : Y (fMeth c m n g fo fa d S) Q :=
  y_bind (h.mono fun u S1 ⟨e, h1⟩ => y_guard e (y_bind (h1.mono fun us S2 ⟨e1, q⟩ => y_guard e1 q)))
theorem ins_ok {c m : Str} {n : Nat} {fs : List (Str × U)} (h : S[n]? = some (.ins c fs)) (hm : (getF fs m).isNone = true) : isIns c m (.loc n) S = true := by
  unfold isIns
  dsimp only
  rw [h]
  dsimp only
  rw [hm, decide_eq_true rfl]
  rfl
theorem y_ixLst {us : List U} {i : Nat} {u : U} (h : us[i]? = some u) (q : Q u S) : Y (ixU (.lst us) (.int (i : Int)) S) Q := y_ix (show ixB (.lst us) (.int i) S = some u from atI_nat h) q
theorem y_negI {i : Int} (h : Q (.int (-i)) S) : Y (negU (.int i) S) Q := ⟨h⟩
theorem y_iceG {f : FE} (h : Y (f d S) fun u S1 => ∃ n us, u = .loc n ∧ S1[n]? = some (.lst us) ∧ ∀ S2, S2.length = S1.length → Fr [n] S1 S2 → Q (.lst us) S2) : Y (fIce f d S) Q :=
  y_ice (h.mono fun u S1 ⟨n, us, e, e1, q⟩ => ⟨n, us, e, e1, q _ List.length_set (Fr.set (by simp))⟩)
theorem Fr.thenNew {ms : List Nat} {S S1 S2 : Sto} {f : Nat} (a : Fr ms S S1) (b : Fr [f] S1 S2) (h : S.length ≤ f) : Fr ms S S2 :=
  ⟨Nat.le_trans a.1 b.1, fun m hm hn => (b.2 m (Nat.lt_of_lt_of_le hm a.1) (by simp; omega)).trans (a.2 m hm hn)⟩
inductive CStep where
  | giv (c : List Lit)
  | met (i j : Nat) (n : Str)
  deriving DecidableEq
def CStep.u : CStep → U
  | .giv c => .tup [.str "given", clU c]
  | .met i j n => .tup [.str "met", .int (i : Int), .int (j : Int), .str n]
end
end DL
namespace DL
open PySem PySem.Spec L2
section
variable {d : En} {S : Sto} {Q : U → Sto → Prop} {QA : List U → Sto → Prop}
end
end DL
namespace DL
open PySem PySem.Spec L2
section
variable {d : En} {S : Sto} {Q : U → Sto → Prop} {QA : List U → Sto → Prop}
variable {n : Nat} {ks : List (List Lit)} {G : List Lit → U} {c : List Lit}
theorem w_par {i j : Nat} {fa : FA} {D : EU} (h : Y (fa d S) fun us S1 => ∃ u v, us = [u, v] ∧ D.nx ((d.set i (some u)).set j (some v)) S1) : WS (fPar i j fa d S) D := ws_toS (h.mono fun us S1 ⟨u, v, e, q⟩ => by
  subst e
  exact ⟨q⟩)
end
end DL
namespace DL
open PySem PySem.Spec L2
section
variable {d : En} {S : Sto} {Q : U → Sto → Prop} {QA : List U → Sto → Prop} {fa fb fe : FE} {ga : FA} {D : EU}
abbrev TRow := List Str × (Str → Bool)
def rowAdd (r : TRow) (p : Str × Bool) : TRow := (addS r.1 p.1, fupd r.2 p.1 p.2)
theorem y_extG {f : Nat} {us vs : List U} {v : U} (hf : S[f]? = some (.lst us)) (hv : listM v S = some vs) (hl : us.length + vs.length ≤ sizeLine) (h : ∀ S', S'[f]? = some (.lst (us ++ vs)) → S'.length = S.length → Fr [f] S S' → Q .non S') : Y (extM (.loc f) [v] S) Q := by
  unfold extM
  simp only [hf, hv]
  exact y_guard (decide_eq_true hl) ⟨h _ (List.getElem?_set_self (List.getElem?_eq_some_iff.mp hf).1) List.length_set (Fr.set (by simp))⟩
end
end DL
namespace DL
open PySem PySem.Spec L2
def trL (r : TRow) (p : Lit) : Bool := decide (p.1 ∈ r.1) && (r.2 p.1 == p.2)
def satR (r : TRow) (K : List Lit) : Bool := K.any (trL r)
def lftR (r : TRow) (K : List Lit) : List Lit := K.filter fun p => !decide (p.1 ∈ r.1)
theorem lft_mem {r : TRow} {K : List Lit} {p : Lit} : p ∈ lftR r K ↔ p ∈ K ∧ p.1 ∉ r.1 := by
  unfold lftR
  rw [List.mem_filter, Bool.not_eq_true', decide_eq_false_iff_not]
def Uni (kn : List (List Lit)) (r r' : TRow) : Prop := ∃ K ∈ kn, ∃ q, satR r K = false ∧ lftR r K = [q] ∧ r' = rowAdd r q
inductive Rch (kn : List (List Lit)) (r : TRow) : TRow → Prop
  | refl : Rch kn r r
  | step {r1 r2 : TRow} : Rch kn r r1 → Uni kn r1 r2 → Rch kn r r2
def Cnf (kn : List (List Lit)) (r : TRow) : Prop := ∃ K ∈ kn, satR r K = false ∧ lftR r K = []
def Clo (kn : List (List Lit)) (r : TRow) : Prop := ∃ r', Rch kn r r' ∧ Cnf kn r'
def SubR (r r' : TRow) : Prop := ∀ n ∈ r.1, n ∈ r'.1 ∧ r'.2 n = r.2 n
theorem SubR.refl (r : TRow) : SubR r r := fun n h => ⟨h, rfl⟩
theorem SubR.trans {a b c : TRow} (h : SubR a b) (h2 : SubR b c) : SubR a c := fun n hn => ⟨(h2 n (h n hn).1).1, ((h2 n (h n hn).1).2).trans (h n hn).2⟩
theorem rowAdd_mem {r : TRow} {p : Lit} {n : Str} : n ∈ (rowAdd r p).1 ↔ n ∈ r.1 ∨ n = p.1 := addS_mem
theorem rowAdd_val (r : TRow) (p : Lit) (n : Str) : (rowAdd r p).2 n = if n = p.1 then p.2 else r.2 n := rfl
theorem sub_add {r : TRow} {p : Lit} (h : p.1 ∉ r.1) : SubR r (rowAdd r p) := fun n hn => ⟨rowAdd_mem.mpr (.inl hn), by rw [rowAdd_val, if_neg fun (e : n = p.1) => h (by rw [← e]; exact hn)]⟩
theorem lft_new {r : TRow} {K : List Lit} {q : Lit} (h : lftR r K = [q]) : q ∈ K ∧ q.1 ∉ r.1 := lft_mem.mp (by rw [h]; simp)
theorem Rch.sub {kn : List (List Lit)} {r r' : TRow} (h : Rch kn r r') : SubR r r' := by
  induction h with
  | refl => exact SubR.refl _
  | step _ u ih =>
    obtain ⟨K, _, q, _, h2, rfl⟩ := u
    exact ih.trans (sub_add (lft_new h2).2)
theorem Clo.more {kn kn' : List (List Lit)} {r : TRow} (h : Clo kn r) (hs : ∀ K ∈ kn, K ∈ kn') : Clo kn' r := by
  obtain ⟨r1, a, K, hK, b⟩ := h
  refine ⟨r1, ?_, K, hs K hK, b⟩
  clear b hK
  induction a with
  | refl => exact .refl
  | step _ u ih =>
    obtain ⟨K, hK, q, h⟩ := u
    exact ih.step ⟨K, hs K hK, q, h⟩
end DL
set_option maxHeartbeats 1000000
namespace DL
open PySem PySem.Spec PyProof.Rows L2
end DL
namespace DL
open PySem PySem.Spec L2
section
variable {d : En} {S : Sto} {Q : U → Sto → Prop} {QA : List U → Sto → Prop} {a : U} {r : TRow} {n : Str}
end
end DL
namespace Law
open PySem PySem.Spec L2 DL
theorem call_run {k i : Nat} {us : List U} {S : Sto} (hi : Nat.ble 1000 i = false) : call (k + 1) i us S = runB (bodies (call k) i) (enStart (slots i) us) S := by
  rw [call, hi]
theorem y_run {k i : Nat} {us : List U} {S : Sto} {Q : U → Sto → Prop} (h : WS (bodies (call k) i (enStart (slots i) us) S) { nx := fun _ S1 => Q .non S1, rt := Q }) (hi : Nat.ble 1000 i = false := by rfl) : Y (call (k + 1) i us S) Q := by
  rw [call_run hi]
  exact DL.y_run h
local macro_rules | `(tactic| walk_at "wp") => `(tactic| (repeat (first | (with_reducible refine yY ?_; first | with_reducible refine y_var (by with_unfolding_all exact rfl) ?_ | with_reducible refine y_cons ?_ | with_reducible refine y_nil ?_ | with_reducible refine y_f2 ?_ | with_reducible refine y_C ?_ | with_reducible refine y_A ?_ | with_reducible refine y_unB ?_ | with_reducible refine y_call ?_ | with_reducible refine y_eqS ?_ | with_reducible refine y_val ?_ | with_reducible refine y_B ?_ | with_reducible refine y_tru ?_ | with_reducible refine y_tbl ?_ | with_reducible refine y_M ?_ | with_reducible refine y_rng1 ?_ | with_reducible refine y_over ?_ | with_reducible refine y_not ?_ | with_reducible refine y_and ?_ | with_reducible refine y_lst ?_ | with_reducible refine y_aComp ?_ | with_reducible refine y_tup ?_ | with_reducible refine y_f1 ?_ | with_reducible refine y_ch ?_ | with_reducible refine y_or ?_ | with_reducible refine y_andV ?_ | with_reducible refine y_notV ?_ | with_reducible refine y_loc ?_ | with_reducible refine y_dval ?_ | with_reducible refine y_dloc ?_ | with_reducible refine y_ice ?_ | with_reducible refine y_oNone ?_ | with_reducible refine y_oSome ?_ | with_reducible refine y_sl ?_ | with_reducible refine y_addI ?_ | with_reducible refine y_subI ?_ | with_reducible refine y_ltI ?_ | with_reducible refine y_leI ?_ | with_reducible refine y_gtI ?_ | with_reducible refine y_geI ?_ | with_reducible refine y_eqI ?_ | with_reducible refine y_neI ?_ | with_reducible refine y_eqB ?_ | with_reducible refine y_neB ?_ | with_reducible refine y_neS ?_ | with_reducible refine y_isN ?_ | with_reducible refine y_isnN ?_ | with_reducible refine y_wget ?_ | with_reducible refine y_mkx1 ?_ | with_reducible refine y_aAdd ?_ | with_reducible refine y_cn ?_) | (with_reducible refine wW ?_; first | with_reducible refine w_seq ?_ | with_reducible refine w_set ?_ | with_reducible refine w_expr ?_ | with_reducible refine w_ret ?_ | with_reducible refine w_for ?_ | with_reducible refine w_retN ?_ | with_reducible refine w_store ?_ | with_reducible refine w_nop ?_ | with_reducible refine w_asg ?_ | with_reducible refine w_ct ?_ | with_reducible refine w_brk ?_ | with_reducible refine w_ln ?_) | with_reducible refine And.intro (len_ok (by with_unfolding_all exact rfl)) ?_)))
theorem pow18 : (10 : Int) ^ (18 : Int).toNat = 1000000000000000000 := by decide
theorem pow6 : (10 : Int) ^ (6 : Int).toNat = 1000000 := by decide
theorem primes_in {p : U} (h : p ∈ ([.int 2147483647, .int 2147483629, .int 2147483587, .int 2147483579, .int 2147483563, .int 2147483549, .int 2147483543] : List U)) : ∃ i : Int, p = .int i ∧ 2147483543 ≤ i ∧ i ≤ 2147483647 := by
  simp only [List.mem_cons, List.mem_nil_iff, or_false] at h
  rcases h with rfl | rfl | rfl | rfl | rfl | rfl | rfl <;> exact ⟨_, rfl, by decide, by decide⟩
theorem draw_step {k n : Nat} {b many c : Int} {S : Sto} (hc : 1 ≤ c) (t : Tape n b S) (hb : b ≤ 2 ^ 100) (h0 : 0 < many) (h1 : many < 2 ^ 200)
    (hrec : 1000000 < many → ∀ S1, Tape n (b + 1) S1 → Y (call k i_law_draw [.loc n, .int (many / 1000000 + 1)] S1) (Drawn1 n (b + c) (many / 1000000 + 1) S1)) :
    Y (call (k + 1) i_law_draw [.loc n, .int many] S) (Drawn1 n (b + c) many S) := by
  obtain ⟨cs, sp, lf, h, hl, hs0, hsb, hf⟩ := t
  have hn : n < S.length := (List.getElem?_eq_some_iff.mp h).1
  refine y_run ?_
  show WS (b_law_draw (call k) [some (.loc n), some (.int many), none, none, none, none, none, none, none] S) _
  unfold b_law_draw
  walk_at "wp"
  refine w_if ?_
  walk_at "wp"
  refine y_ix (ix_left h) ?_
  walk_at "wp"
  refine ite_b (fun c => ?_) (fun c => ?_)
  · have c := of_decide_eq_true c
    walk_at "wp"
    refine y_ix (ix_left h) ?_
    walk_at "wp"
    refine y_modI h0 ?_
    walk_at "wp"
    refine y_ix (ix_left h) ?_
    walk_at "wp"
    refine y_fdivI h0 (log_lt h0 h1) ?_
    walk_at "wp"
    refine ⟨_, st_left h, ?_⟩
    walk_at "wp"
    refine ⟨lf % many, rfl, Int.emod_nonneg _ (by omega), Int.emod_lt_of_pos _ h0, ?_, ?_, ?_⟩
    · exact ⟨cs, sp, lf / many, List.getElem?_set_self hn, hl, hs0, by omega, Int.ediv_nonneg hf (by omega)⟩
    · exact List.length_set
    · exact Fr.set (List.mem_singleton.mpr rfl)
  · walk_at "wp"
    refine y_ix (ix_spot h) ?_
    walk_at "wp"
    refine ⟨_, st_spot h, ?_⟩
    have h2 : (S.set n (tapeO cs (sp + 1) lf))[n]? = some (tapeO cs (sp + 1) lf) := List.getElem?_set_self hn
    have f2 : Fr [n] S (S.set n (tapeO cs (sp + 1) lf)) := Fr.set (List.mem_singleton.mpr rfl)
    have l2 : (S.set n (tapeO cs (sp + 1) lf)).length = S.length := List.length_set
    generalize S.set n (tapeO cs (sp + 1) lf) = S2 at h2 f2 l2 ⊢
    walk_at "wp"
    refine y_orC hl (show (oU (ixB (.loc n) (.str "cells") S2) S2) = _ by rw [ix_cells h2]; rfl) rfl fun ds d0 d1 => ?_
    walk_at "wp"
    refine y_lenL ?_
    rw [List.length_map]
    refine y_modI (by omega) ?_
    refine y_ixI (Int.emod_nonneg _ (by omega)) (Int.emod_lt_of_pos _ (by omega)) fun cell => ?_
    walk_at "wp"
    refine w_ifP (fun b => b = true → 1000000000000000000 ≤ cell) ?_ (fun hc => ?_) (fun _ => ?_)
    · walk_at "wp"
      refine y_powI (by decide) (by decide) (by decide) ?_
      rw [pow18]
      walk_at "wp"
      refine ite_b (fun c1 => ?_) (fun c1 => ?_)
      · walk_at "wp"
        refine y_lenL ?_
        walk_at "wp"
        exact ⟨rfl, fun _ => of_decide_eq_true c1⟩
      · exact ⟨rfl, fun h => by cases h⟩
    · have hc := hc rfl
      walk_at "wp"
      refine y_powI (by decide) (by decide) (by decide) ?_
      rw [pow18]
      walk_at "wp"
      refine y_fdivI h0 (log_lt h0 h1) ?_
      walk_at "wp"
      refine ⟨_, st_left h2, ?_⟩
      walk_at "wp"
      refine y_powI (by decide) (by decide) (by decide) ?_
      rw [pow18]
      walk_at "wp"
      refine y_modI h0 ?_
      walk_at "wp"
      refine ⟨_, rfl, Int.emod_nonneg _ (by omega), Int.emod_lt_of_pos _ h0, ?_, ?_, ?_⟩
      · exact ⟨cs, sp + 1, (cell - 1000000000000000000) / many, List.getElem?_set_self (by omega), hl, by omega, by omega, Int.ediv_nonneg (by omega) (by omega)⟩
      · rw [List.length_set]; exact l2
      · exact f2.trans (Fr.set (List.mem_singleton.mpr rfl))
    have hm0 : 0 ≤ sp % 7 := Int.emod_nonneg _ (by decide)
    have hm1 : sp % 7 < 7 := Int.emod_lt_of_pos _ (by decide)
    walk_at "wp"
    refine y_modI (by decide) ?_
    refine y_ixL hm0 hm1 fun p hp _ => ?_
    obtain ⟨p, rfl, hp0, hp1⟩ : ∃ i : Int, p = .int i ∧ 2147483543 ≤ i ∧ i ≤ 2147483647 := primes_in hp
    walk_at "wp"
    refine y_modI (by omega) ?_
    have c0 := Int.emod_nonneg cell (by omega : p ≠ 0)
    have c1 := Int.emod_lt_of_pos cell (by omega : 0 < p)
    walk_at "wp"
    with_reducible refine y_mulI ?_ ?_
    · exact mul_ok (a := 40) (b := 40) (natAbs_lt c0 (by omega)) (by decide) (by decide)
    walk_at "wp"
    with_reducible refine y_mulI ?_ ?_
    · exact mul_ok (a := 40) (b := 101) (by decide) (natAbs_lt hs0 (by omega)) (by decide)
    walk_at "wp"
    with_reducible refine y_mulI ?_ ?_
    · exact mul_ok (a := 150) (b := 101) (natAbs_lt (by omega) (by omega)) (natAbs_lt hs0 (by omega)) (by decide)
    walk_at "wp"
    with_reducible refine y_mulI ?_ ?_
    · exact mul_ok (a := 40) (b := 101) (by decide) (natAbs_lt hs0 (by omega)) (by decide)
    walk_at "wp"
    refine y_modI (by omega) ?_
    generalize (cell % p * 48271 + 7919 * sp * sp + 69621 * sp + 1) = s1
    have s0 := Int.emod_nonneg s1 (by omega : p ≠ 0)
    have s2 := Int.emod_lt_of_pos s1 (by omega : 0 < p)
    generalize s1 % p = s1 at s0 s2 ⊢
    walk_at "wp"
    with_reducible refine y_mulI ?_ ?_
    · exact mul_ok (a := 40) (b := 41) (natAbs_lt s0 (by omega)) (natAbs_lt (by omega) (by omega)) (by decide)
    walk_at "wp"
    refine y_modI (by decide) ?_
    refine y_ixL (Int.emod_nonneg _ (by decide)) (Int.emod_lt_of_pos _ (by decide)) fun q hq _ => ?_
    obtain ⟨q, rfl, hq0, hq1⟩ : ∃ i : Int, q = .int i ∧ 2147483543 ≤ i ∧ i ≤ 2147483647 := primes_in hq
    refine y_modI (by omega) ?_
    generalize s1 * (s1 + 16807) = s3
    have s4 := Int.emod_nonneg s3 (by omega : q ≠ 0)
    have s5 := Int.emod_lt_of_pos s3 (by omega : 0 < q)
    generalize s3 % q = s3 at s4 s5 ⊢
    walk_at "wp"
    with_reducible refine y_mulI ?_ ?_
    · exact mul_ok (a := 40) (b := 41) (natAbs_lt s4 (by omega)) (natAbs_lt s4 (by omega)) (by decide)
    walk_at "wp"
    refine y_modI (by omega) ?_
    walk_at "wp"
    refine y_fdivI (by decide) (by decide) ?_
    generalize s3 * s3 % p / 64 = s6
    walk_at "wp"
    refine w_if ?_
    walk_at "wp"
    refine y_powI (by decide) (by decide) (by decide) ?_
    rw [pow6]
    walk_at "wp"
    refine ite_b (fun c2 => ?_) (fun c2 => ?_)
    · have c2 := of_decide_eq_true c2
      walk_at "wp"
      refine y_powI (by decide) (by decide) (by decide) ?_
      rw [pow6]
      walk_at "wp"
      refine y_modI (by decide) ?_
      walk_at "wp"
      refine y_powI (by decide) (by decide) (by decide) ?_
      rw [pow6]
      walk_at "wp"
      refine y_powI (by decide) (by decide) (by decide) ?_
      rw [pow6]
      walk_at "wp"
      refine y_fdivI (by decide) (by decide) ?_
      walk_at "wp"
      refine ⟨rfl, ?_⟩
      refine (hrec c2 S2 ⟨cs, sp + 1, lf, h2, hl, by omega, by omega, hf⟩).mono ?_
      rintro _ S3 ⟨r, rfl, r0, r1, t3, l3, f3⟩
      with_reducible refine y_mulI ?_ ?_
      · exact mul_ok (a := 40) (b := 201) (by decide) (natAbs_lt r0 (by omega)) (by decide)
      walk_at "wp"
      refine y_modI h0 ?_
      exact ⟨_, rfl, Int.emod_nonneg _ (by omega), Int.emod_lt_of_pos _ h0, t3, l3.trans l2, f2.trans f3⟩
    · walk_at "wp"
      refine y_modI h0 ?_
      exact ⟨_, rfl, Int.emod_nonneg _ (by omega), Int.emod_lt_of_pos _ h0, ⟨cs, sp + 1, lf, h2, hl, by omega, by omega, hf⟩, l2, f2⟩
theorem draw {k n : Nat} {b many : Int} {S : Sto} (t : Tape n b S) (hb : b ≤ 2 ^ 100) (h0 : 0 < many) (h1 : many ≤ 1000000) : Y (call (k + 1) i_law_draw [.loc n, .int many] S) (Drawn1 n (b + 30) many S) :=
  draw_step (by decide) t hb h0 (by omega) fun h => absurd h (by omega)
def w7 : List Str := ["not", "and", "or", "gives", "is", "yes", "no"]
def lettersB (z : Str) : Bool := z.cps.toList.all fun c => inStr ⟨#[c]⟩ "abcdefghijklmnopqrstuvwxyz"
def wordB : U → Bool
  | .str z => decide (1 ≤ z.length) && decide (z.length ≤ 8) && lettersB z && !decide (z ∈ w7)
  | _ => false
theorem y_inStr {a b : Str} {S : Sto} {Q : U → Sto → Prop} (h : Q (.bl (inStr a b)) S) : Y (inU (.str a) (.str b) S) Q := ⟨h⟩
theorem y_ninT {us : List U} (ws : List Str) {w : Str} {S : Sto} {Q : U → Sto → Prop} (e : us = ws.map .str) (h : Q (.bl (!decide (w ∈ ws))) S) : Y (ninU (.str w) (.tup us) S) Q := by
  subst e
  have e : inB (.str w) (.tup (ws.map .str)) S = some (decide (w ∈ ws)) := by
    unfold inB
    dsimp only
    rw [all_flat, any_str]
    rfl
  unfold ninU
  rw [e]
  exact ⟨h⟩
theorem all_map {α : Type} {us : List α} (g : α → Bool) {S : Sto} {Q : U → Sto → Prop} (h : Q (.bl (us.all g)) S) : Y (allC [.lst (us.map fun c => U.bl (g c))] S) Q := by
  have e : (us.map g).all id = us.all g := by rw [List.all_map]; rfl
  unfold allC overL DL.listOf listM
  simp only [boolsOf_map, e]
  exact ⟨h⟩
theorem wordB_str (z : Str) : wordB (.str z) = (decide (1 ≤ z.length) && decide (z.length ≤ 8) && lettersB z && !decide (z ∈ w7)) := rfl
theorem is_word {k c m : Nat} {u : U} {S : Sto} (p : Pl c m u) : Y (call (k + 1) i_is_word [u] S) fun r S' => r = .bl (wordB u) ∧ S' = S := by
  refine y_run ?_
  show WS (b_is_word (call k) [some u, none] S) _
  unfold b_is_word c_LETTERS c_WORDS_OF_TEXTS c_LONGEST_WORD
  walk_at "wp"
  refine w_ifP (fun b => (b = true → wordB u = false) ∧ (b = false → ∃ z, u = .str z ∧ 1 ≤ z.length ∧ z.length ≤ 8)) ?_ (fun h => ?_) (fun h => ?_)
  · walk_at "wp"
    refine y_isS p ?_
    walk_at "wp"
    cases u with
    | str z =>
      have hz : z.length ≤ sizeLine := by cases m <;> (unfold Pl at p; exact p.2)
      show Y _ _
      walk_at "wp"
      refine y_lenZ hz ?_
      walk_at "wp"
      refine ite_b (fun c1 => ?_) (fun c1 => ?_)
      · walk_at "wp"
        refine ⟨rfl, fun h => ?_, fun h => ⟨z, rfl, ?_⟩⟩
        · rw [wordB_str]
          have : ¬ z.length ≤ 8 := fun q => by
            rw [decide_eq_true (by omega : (z.length : Int) ≤ 8)] at h
            cases h
          rw [decide_eq_false this, Bool.and_false]
          rfl
        · have h1 := of_decide_eq_true c1
          have h2 : decide ((z.length : Int) ≤ 8) = true := by
            cases q : decide ((z.length : Int) ≤ 8) with
            | true => rfl
            | false => rw [q] at h; cases h
          have h2 := of_decide_eq_true h2
          omega
      · walk_at "wp"
        refine ⟨rfl, fun _ => ?_, fun h => by cases h⟩
        rw [wordB_str]
        have := of_decide_eq_false c1
        rw [decide_eq_false (by omega : ¬ 1 ≤ z.length)]
        rfl
    | _ => exact ⟨rfl, fun _ => rfl, fun h => by cases h⟩
  · walk_at "wp"
    exact ⟨by rw [h.1 rfl], rfl⟩
  · obtain ⟨z, rfl, h1, h8⟩ := h.2 rfl
    walk_at "wp"
    refine ⟨_, rfl, ?_⟩
    refine y_compM (fun v => match v with | .str c => .bl (inStr c "abcdefghijklmnopqrstuvwxyz") | v => v) _ _ ?_ (by rw [List.length_map, sizeL, Array.length_toList]; show 0 + z.length ≤ _; omega) ?_
    · intro v hv
      obtain ⟨c, hc, rfl⟩ := List.mem_map.mp hv
      refine ⟨_, rfl, ?_⟩
      walk_at "wp"
      refine y_inStr ?_
      exact ⟨rfl, rfl⟩
    walk_at "wp"
    rw [List.nil_append, List.map_map]
    refine all_map (fun c => inStr ⟨#[c]⟩ "abcdefghijklmnopqrstuvwxyz") ?_
    walk_at "wp"
    refine ite_b (fun c1 => ?_) (fun c1 => ?_)
    · walk_at "wp"
      refine y_ninT w7 rfl ?_
      refine ⟨?_, rfl⟩
      rw [wordB_str]
      unfold lettersB
      rw [c1, decide_eq_true h1, decide_eq_true h8]
      rfl
    · refine ⟨?_, rfl⟩
      rw [wordB_str]
      unfold lettersB
      rw [c1, decide_eq_true h1, decide_eq_true h8]
      rfl
theorem letters_low : Low "abcdefghijklmnopqrstuvwxyz" := by unfold Low; decide +kernel
theorem letters_len : (Str.length "abcdefghijklmnopqrstuvwxyz") = 26 := by decide +kernel
def ownW : List Str := ["nota", "andy", "org", "isa", "yesno", "given", "noa", "same"]
theorem own_split : Txt.split "nota andy org isa yesno given noa same" " " = ownW := by decide +kernel
theorem own_low : ∀ z ∈ ownW, Low z ∧ 1 ≤ z.length ∧ z.length ≤ 8 := by unfold Low; decide +kernel
theorem y_letter {i : Int} {S : Sto} {Q : U → Sto → Prop} (h0 : 0 ≤ i) (h1 : i < 26) (h : ∀ z : Str, Low z → z.length = 1 → Q (.str z) S) : Y (ixU (.str "abcdefghijklmnopqrstuvwxyz") (.int i) S) Q :=
  y_ixS (by rw [letters_len]; decide) h0 (by rw [show (Str.cps "abcdefghijklmnopqrstuvwxyz").toList.length = 26 from by decide +kernel]; exact h1) fun c hc _ => h _ (letters_low.one hc) rfl
def WordL (z : Str) : Prop := Low z ∧ 1 ≤ z.length ∧ z.length ≤ 8
def lastS (z : Str) : Option Nat := (TL.tl z).getLast?
theorem last_app (x : Str) (c : Nat) : lastS (x ++ ⟨#[c]⟩) = some c := by
  unfold lastS
  rw [TL.tl_append]
  show (TL.tl x ++ [c]).getLast? = some c
  rw [List.getLast?_append]
  rfl
theorem nodup_sub {α : Type} [DecidableEq α] : ∀ {l m : List α}, l.Nodup → (∀ x ∈ l, x ∈ m) → l.length ≤ m.length
  | [], m, _, _ => Nat.zero_le _
  | x :: l, m, hn, h => by
    rw [List.nodup_cons] at hn
    have hx := h x List.mem_cons_self
    have := nodup_sub (l := l) (m := m.erase x) hn.2 fun y hy => (List.mem_erase_of_ne (fun e => hn.1 (by rw [← e]; exact hy))).mpr (h y (List.mem_cons_of_mem _ hy))
    rw [List.length_erase_of_mem hx] at this
    have hp : 0 < m.length := List.length_pos_of_mem hx
    rw [List.length_cons]
    omega
def lettersL : List Nat := TL.tl "abcdefghijklmnopqrstuvwxyz"
theorem letters_nd : (lettersL.map some).Nodup := by decide +kernel
theorem letters_26 : lettersL.length = 26 := by decide +kernel
theorem not_all {bad : List Str} (hb : bad.length < 26) : ¬ ∀ c ∈ lettersL, some c ∈ bad.map lastS := fun h => by
  have := nodup_sub (m := bad.map lastS) letters_nd fun x hx => by
    obtain ⟨c, hc, rfl⟩ := List.mem_map.mp hx
    exact h c hc
  rw [List.length_map, List.length_map, letters_26] at this
  omega
theorem words {k n m : Nat} {b : Int} {S : Sto} (t0 : Tape n b S) (hb : b + 30 * (8 + 3 * m) ≤ 2 ^ 100) (hm : m ≤ 18) :
    Y (call (k + 2) i_law_words [.loc n, .int m] S) fun u S' => ∃ ws : List Str, u = .lst (ws.map .str) ∧ ws.length = m ∧ (∀ w ∈ ws, WordL w ∧ w ∉ w7) ∧ ws.Nodup ∧ Tape n (b + 30 * (8 + 3 * m)) S' ∧ Fr [n] S S' := by
  refine y_run ?_
  show WS (b_law_words (call (k + 1)) [some (.loc n), some (.int m), none, none, none, none, none, none, none, none, none] S) _
  unfold b_law_words
  walk_at "wp"
  refine ⟨rfl, ?_⟩
  walk_at "wp"
  refine y_guard (by decide +kernel) (y_ok ?_)
  rw [own_split]
  walk_at "wp"
  refine ⟨rfl, ?_⟩
  walk_at "wp"
  refine ⟨rfl, (draw t0 (by omega) (by first | decide | omega) (by first | decide | omega)).mono ?_⟩; rintro _ S1 ⟨r1, rfl, r10, r11, t1, l1, f1⟩
  walk_at "wp"
  refine ⟨_, rfl, by omega, by omega, ?_⟩
  refine (y_comp (Q := fun us S2 => ∃ ys : List Str, us = ys.map .str ∧ (∀ y ∈ ys, Low y ∧ y.length = 1) ∧ 1 ≤ ys.length ∧ ys.length ≤ 6 ∧ Tape n (b + 210) S2 ∧ Fr [n] S S2)
    (fun us acc S2 => ∃ ys : List Str, acc = ys.map .str ∧ (∀ y ∈ ys, Low y ∧ y.length = 1) ∧ (us.length : Int) + ys.length = 1 + r1 ∧ Tape n (b + 30 + 30 * ys.length) S2 ∧ Fr [n] S S2) ?_ ?_ _ _ _ ?_).mono ?_
  · rintro u us _ S2 ⟨ys, rfl, hy, hc, t2, f2⟩
    rw [List.length_cons] at hc
    refine ⟨by rw [List.length_map, sizeL]; omega, _, rfl, ?_⟩
    refine y_ok ?_
    rw [if_pos rfl]
    walk_at "wp"
    refine ⟨rfl, (draw t2 (by omega) (by first | decide | omega) (by first | decide | omega)).mono ?_⟩; rintro _ S3 ⟨r3, rfl, r30, r31, t3, l3, f3⟩
    refine y_letter r30 r31 fun z hz1 hz2 => ?_
    refine ⟨ys ++ [z], by rw [List.map_append]; rfl, fun y h => (List.mem_append.mp h).elim (hy y) (fun h => ?_), by rw [List.length_append, List.length_singleton]; omega, t3.mono (by rw [List.length_append, List.length_singleton]; omega), f2.trans f3⟩
    rw [List.mem_singleton.mp h]
    exact ⟨hz1, hz2⟩
  · rintro _ S2 ⟨ys, rfl, hy, hc, t2, f2⟩
    exact ⟨ys, rfl, hy, by simp only [List.length_nil] at hc; omega, by simp only [List.length_nil] at hc; omega, t2.mono (by simp only [List.length_nil] at hc; omega), f2⟩
  · exact ⟨[], rfl, (by intro y h; cases h), by rw [rng_len]; simp only [List.length_nil]; omega, t1.mono (by simp only [List.length_nil]; omega), f1⟩
  rintro _ S2 ⟨ys, rfl, hy, hy1, hy6, t2, f2⟩
  walk_at "wp"
  refine y_join1 (fun y h => (hy y h).2) (by omega) ?_
  have hbl : Low (Txt.join "" ys) := Low.join fun y h => (hy y h).1
  have hbn : (Txt.join "" ys).length = ys.length := len_join fun y h => (hy y h).2
  generalize Txt.join "" ys = base at hbl hbn ⊢
  walk_at "wp"
  have f3 : Fr [n] S (S2 ++ [.lst []]) := f2.trans Fr.push
  have t3 : Tape n (b + 210) (S2 ++ [.lst []]) := t2.fr (ms := []) Fr.push (by simp)
  have hf : (S2 ++ [Ob.lst []])[S2.length]? = some (.lst []) := sto_snoc
  have hfs : S.length ≤ S2.length := f2.1
  have hfn : n < S.length := t0.lt
  generalize S2 ++ [Ob.lst []] = S3 at f3 t3 hf ⊢
  generalize S2.length = f at hf hfs ⊢
  clear hy
  walk_at "wp"
  refine ⟨_, rfl, by omega, by omega, ?_⟩
  refine w_loop (fun us d S4 => ∃ (ws : List Str) (x6 x7 x8 x9 x10 : Option U), d = [some (.loc n), some (.int m), some (.str "abcdefghijklmnopqrstuvwxyz"), some (.lst (ownW.map .str)), some (.str base), some (.loc f), x6, x7, x8, x9, x10] ∧ us.length + ws.length = m ∧ (∀ w ∈ ws, WordL w ∧ w ∉ w7) ∧ ws.Nodup ∧ Tape n (b + 210 + 90 * ws.length) S4 ∧ S4[f]? = some (.lst (ws.map .str)) ∧ Fr [n] S S4) ?_ ?_ _ _ _ ?_
  · rintro u us _ S4 ⟨ws, x6, x7, x8, x9, x10, rfl, hc, hw, hnd, t4, hf4, f4⟩
    rw [List.length_cons] at hc
    refine ⟨_, rfl, ?_⟩
    walk_at "wp"
    refine ⟨rfl, (draw t4 (by omega) (by first | decide | omega) (by first | decide | omega)).mono ?_⟩; rintro _ S5 ⟨r5, rfl, r50, r51, t5, l5, f5⟩
    refine y_letter r50 r51 fun z hz1 hz2 => ?_
    walk_at "wp"
    refine y_addS (by rw [sizeL]; omega) ?_
    walk_at "wp"
    refine y_addS (by rw [sizeL]; omega) ?_
    walk_at "wp"
    refine y_addS (by rw [sizeL]; omega) ?_
    walk_at "wp"
    refine y_addS (by rw [len_app, sizeL]; omega) ?_
    walk_at "wp"
    refine ⟨rfl, (draw t5 (by omega) (by first | decide | omega) (by first | decide | omega)).mono ?_⟩; rintro _ S6 ⟨r6, rfl, r60, r61, t6, l6, f6⟩
    refine y_ixL r60 r61 fun o ho _ => ?_
    obtain ⟨o, hoo, rfl⟩ := List.mem_map.mp ho
    have ho := own_low o hoo
    walk_at "wp"
    refine ⟨rfl, (draw t6 (by omega) (by first | decide | omega) (by first | decide | omega)).mono ?_⟩; rintro _ S7 ⟨r7, rfl, r70, r71, t7, l7, f7⟩
    refine y_ixL r70 r71 fun w0 hw0 _ => ?_
    obtain ⟨w0, rfl, hl0, hn0⟩ : ∃ z, w0 = .str z ∧ Low z ∧ 1 ≤ z.length ∧ z.length ≤ 16 := by
      simp only [List.mem_cons, List.mem_nil_iff, or_false] at hw0
      rcases hw0 with rfl | rfl | rfl | rfl | rfl | rfl
      · exact ⟨_, rfl, hbl, by omega⟩
      · exact ⟨_, rfl, hbl.app hz1, by rw [len_app]; omega⟩
      · exact ⟨_, rfl, hz1.app hbl, by rw [len_app]; omega⟩
      · exact ⟨_, rfl, hz1, by omega⟩
      · exact ⟨_, rfl, (hbl.app hz1).app hz1, by rw [len_app, len_app]; omega⟩
      · exact ⟨_, rfl, ho.1, by omega⟩
    walk_at "wp"
    refine ⟨_, rfl, ?_⟩
    refine y_slS (by rw [sizeL]; omega) ?_
    have hw1 : WordL (cutS w0 none (some ((8 : Nat) : Int))) := ⟨hl0.take 8, by rw [len_take]; omega, by rw [len_take]; omega⟩
    generalize cutS w0 none (some 8) = w1 at hw1 ⊢
    have hf7 : S7[f]? = some (.lst (ws.map .str)) := f7.get (f6.get (f5.get hf4 (by simp; omega)) (by simp; omega)) (by simp; omega)
    have t7 : Tape n (b + 210 + 90 * (ws.length + 1)) S7 := t7.mono (by omega)
    have f7 : Fr [n] S S7 := f4.trans (f5.trans (f6.trans f7))
    clear hw0 hz1 hz2 ho t6 t5 f5 f6
    walk_at "wp"
    refine ⟨_, rfl, ?_⟩
    refine w_loop (fun us d S8 => S8 = S7 ∧ ∃ (P rest : List Nat) (w : Str) (x6 x7 x8 x10 : Option U), us = rest.map (fun c => .str ⟨#[c]⟩) ∧ P ++ rest = lettersL ∧ (w ∉ ws ++ w7 ∨ ∀ c ∈ P, some c ∈ (ws ++ w7).map lastS) ∧ d = [some (.loc n), some (.int m), some (.str "abcdefghijklmnopqrstuvwxyz"), some (.lst (ownW.map .str)), some (.str base), some (.loc f), x6, x7, x8, some (.str w), x10] ∧ WordL w) ?_ ?_ _ _ _ ?_
    · rintro u us _ _ ⟨rfl, P, rest, w, x6, x7, x8, x10, e, hP, hbad, rfl, hw2⟩
      cases rest with
      | nil => cases e
      | cons c rest =>
      cases e
      have hcl : c ∈ lettersL := by rw [← hP]; simp
      have hc1 : Low ⟨#[c]⟩ := letters_low.one hcl
      have hc2 : Str.length ⟨#[c]⟩ = 1 := rfl
      have hP2 : (P ++ [c]) ++ rest = lettersL := by rw [List.append_assoc]; exact hP
      refine ⟨_, rfl, ?_⟩
      refine w_ifP (fun t => t = decide (w ∈ ws ++ w7)) ?_ (fun hq => ?_) (fun hq => ?_)
      · walk_at "wp"
        refine y_inL hf7 ?_
        walk_at "wp"
        by_cases q1 : w ∈ ws
        · rw [decide_eq_true q1]
          exact ⟨rfl, by rw [decide_eq_true (List.mem_append.mpr (.inl q1))]⟩
        · rw [decide_eq_false q1]
          show Y _ _
          walk_at "wp"
          refine y_inT w7 rfl ?_
          walk_at "wp"
          refine ⟨rfl, ?_⟩
          congr 1
          rw [List.mem_append]
          simp [q1]
      · walk_at "wp"
        refine ⟨_, rfl, ?_⟩
        refine y_slS (by rw [sizeL]; have := hw2.2.2; omega) ?_
        have h3 : Low (cutS w none (some ((7 : Nat) : Int)) ++ ⟨#[c]⟩) := (hw2.1.take 7).app hc1
        have h4 : (cutS w none (some ((7 : Nat) : Int)) ++ ⟨#[c]⟩).length = min 7 w.length + 1 := by rw [len_app, len_take, hc2]
        have h5 : (cutS w none (some ((7 : Nat) : Int))).length ≤ 7 := by rw [len_take]; omega
        walk_at "wp"
        refine y_addS (by rw [sizeL, hc2]; exact Nat.le_trans (Nat.add_le_add_right h5 1) (by decide)) ?_
        refine ⟨rfl, P ++ [c], rest, _, _, _, _, _, rfl, hP2, ?_, rfl, h3, by rw [show (cutS w none (some 7) ++ ⟨#[c]⟩).length = _ from h4]; omega, by rw [show (cutS w none (some 7) ++ ⟨#[c]⟩).length = _ from h4]; omega⟩
        by_cases q2 : (cutS w none (some 7) ++ ⟨#[c]⟩) ∈ ws ++ w7
        · refine .inr fun c' hc' => ?_
          rcases List.mem_append.mp hc' with hc' | hc'
          · rcases hbad with hbad | hbad
            · exact absurd (of_decide_eq_true hq.symm) hbad
            · exact hbad c' hc'
          · rw [List.mem_singleton.mp hc']
            exact List.mem_map.mpr ⟨_, q2, last_app _ c⟩
        · exact .inl q2
      · walk_at "wp"
        exact ⟨rfl, P ++ [c], rest, _, _, _, _, _, rfl, hP2, .inl (of_decide_eq_false hq.symm), rfl, hw2⟩
    · rintro d _ ⟨rfl, P, rest, w, x6, x7, x8, x10, e, hP, hbad, rfl, hw2⟩
      have hgood : w ∉ ws ++ w7 := by
        rcases hbad with hbad | hbad
        · exact hbad
        · cases rest with
          | cons c rest => cases e
          | nil =>
            rw [List.append_nil] at hP
            subst hP
            exact absurd hbad (not_all (by rw [List.length_append, show w7.length = 7 from rfl]; omega))
      have hg1 : w ∉ ws := fun q => hgood (List.mem_append.mpr (.inl q))
      have hg2 : w ∉ w7 := fun q => hgood (List.mem_append.mpr (.inr q))
      walk_at "wp"
      refine ⟨ty_list hf7, ?_⟩
      walk_at "wp"
      refine y_app hf7 (by rw [List.length_map, sizeL]; omega) ?_
      refine ⟨ws ++ [w], _, _, _, _, _, rfl, by rw [List.length_append, List.length_singleton]; omega, fun v hv => (List.mem_append.mp hv).elim (hw v) (fun h => by rw [List.mem_singleton.mp h]; exact ⟨hw2, hg2⟩), List.nodup_append.mpr ⟨hnd, List.pairwise_singleton _ _, fun a ha b hb e => hg1 (by rw [← List.mem_singleton.mp hb, ← e]; exact ha)⟩, ?_, ?_, f7.setNew hfs⟩
      · rw [List.length_append, List.length_singleton]
        exact t7.fr (ms := [f]) (Fr.set (by simp)) (by simp; omega)
      · rw [List.map_append]
        exact List.getElem?_set_self (List.getElem?_eq_some_iff.mp hf7).1
    · exact ⟨rfl, [], lettersL, w1, _, _, _, _, rfl, rfl, .inr fun c hc => (by cases hc), rfl, hw1⟩
  · rintro d S4 ⟨ws, x6, x7, x8, x9, x10, rfl, hc, hw, hnd, t4, hf4, f4⟩
    walk_at "wp"
    refine ⟨f, _, rfl, hf4, ws, rfl, by simp only [List.length_nil] at hc; omega, hw, hnd, ?_, f4.setNew hfs⟩
    exact (t4.fr (ms := [f]) (Fr.set (by simp)) (by simp; omega)).mono (by simp only [List.length_nil] at hc; omega)
  · exact ⟨[], none, none, none, none, none, rfl, by rw [rng_len]; simp, (by intro w h; cases h), .nil, t3.mono (by simp only [List.length_nil]; omega), hf, f3⟩
theorem tape {k : Nat} (ns : List Int) (hn : ns.length ≤ 63) (S : Sto) : Y (call (k + 1) i_law_tape [.frz (ns.map .int)] S) fun u S' => u = .loc S.length ∧ Tape S.length 0 S' ∧ S'.length = S.length + 1 := by
  refine y_run ?_
  show WS (b_law_tape (call k) [some (.frz (ns.map .int))] S) _
  unfold b_law_tape
  walk_at "wp"
  refine Y.of (show dDisp _ _ _ = .ok ([.inr "cells", .inr "spot", .inr "left"], [.lst (cutU (ns.map .int) none (some 63)), .int 0, .int 0]) S from rfl) ?_
  refine ⟨rfl, ⟨ns, 0, 0, ?_, hn, by decide, by decide, by decide⟩, by simp⟩
  rw [show cutU (ns.map U.int) none (some 63) = ns.map .int from by rw [show (63 : Int) = ((63 : Nat) : Int) from rfl, cut_pre, List.take_of_length_le (by rw [List.length_map]; exact hn)]]
  exact sto_snoc
def SaidP (n f : Nat) (ws : List Str) (b L : Int) (d : Nat) (S : Sto) (u : U) (S' : Sto) : Prop :=
  ∃ (x : Say) (L' : Int), u = x.u ∧ x.On (· ∈ ws) ∧ x.deep ≤ max d 1 ∧ S'[f]? = some (.lst [.int L']) ∧ (0 ≤ L → 0 ≤ L') ∧ (x.parts : Int) + L' ≤ 1 + L ∧ Tape n (b + cst d) S' ∧ Fr [n, f] S S'
theorem say_step {n f : Nat} {ws : List Str} (hnf : n ≠ f) (hw0 : 1 ≤ ws.length) (hw1 : ws.length ≤ 1000) (d k : Nat) {b L : Int} {S : Sto} (t0 : Tape n b S) (hb : b + cst d ≤ 2 ^ 100) (hf : S[f]? = some (.lst [.int L]))
    (hrec : ∀ e, d = e + 1 → ∀ {b L : Int} {S : Sto}, Tape n b S → b + cst e ≤ 2 ^ 100 → S[f]? = some (.lst [.int L]) → Y (call (k + 1) i_law_saying [.loc n, .lst (ws.map .str), .loc f, .int e] S) (SaidP n f ws b L e S)) :
    Y (call (k + 2) i_law_saying [.loc n, .lst (ws.map .str), .loc f, .int d] S) (SaidP n f ws b L d S) := by
  have hc := cst_pos d
  refine y_run ?_
  show WS (b_law_saying (call (k + 1)) [some (.loc n), some (.lst (ws.map .str)), some (.loc f), some (.int d), none, none, none] S) _
  unfold b_law_saying
  walk_at "wp"
  refine ⟨rfl, (draw t0 (by omega) (by first | decide | omega) (by first | decide | omega)).mono ?_⟩; rintro _ S1 ⟨r1, rfl, r10, r11, t1, l1, f1⟩
  have hf1 : S1[f]? = some (.lst [.int L]) := f1.get hf (by simp; omega)
  have f1 : Fr [n, f] S S1 := f1.more (by simp)
  walk_at "wp"
  refine w_ifP (fun b => b = false → 2 ≤ L ∧ 2 ≤ d ∧ 3 ≤ r1) ?_ (fun _ => ?_) (fun hb1 => ?_)
  · walk_at "wp"
    refine y_ix (ix_first hf1) ?_
    walk_at "wp"
    refine ite_b (fun _ => ⟨rfl, fun h => by cases h⟩) (fun c1 => ?_)
    walk_at "wp"
    refine ite_b (fun _ => ⟨rfl, fun h => by cases h⟩) (fun c2 => ?_)
    walk_at "wp"
    refine ⟨rfl, fun c3 => ?_⟩
    have := of_decide_eq_false c1
    have := of_decide_eq_false c2
    have := of_decide_eq_false c3
    omega
  · walk_at "wp"
    refine y_lenS ?_
    walk_at "wp"
    refine ⟨rfl, (draw t1 (by omega) (by first | decide | omega) (by first | decide | omega)).mono ?_⟩; rintro _ S2 ⟨r2, rfl, r20, r21, t2, l2, f2⟩
    refine y_ixW r20 r21 fun w hw _ => ?_
    walk_at "wp"
    refine ⟨rfl, (draw t2 (by omega) (by first | decide | omega) (by first | decide | omega)).mono ?_⟩; rintro _ S3 ⟨r3, rfl, r30, r31, t3, l3, f3⟩
    walk_at "wp"
    refine y_min ?_
    refine y_ixL (by split <;> omega) (show _ < (3 : Int) by split <;> omega) fun u hu _ => ?_
    have hf3 : S3[f]? = some (.lst [.int L]) := f3.get (f2.get hf1 (by simp; omega)) (by simp; omega)
    have f4 : Fr [n, f] S S3 := f1.trans ((f2.trans f3).more (by simp))
    have t4 : Tape n (b + cst d) S3 := t3.mono (by omega)
    simp only [List.mem_cons, List.mem_nil_iff, or_false] at hu
    rcases hu with rfl | rfl | rfl
    · exact ⟨.yes, L, rfl, trivial, Nat.le_max_right _ _, hf3, id, by show ((1 : Nat) : Int) + L ≤ 1 + L; omega, t4, f4⟩
    · exact ⟨.no, L, rfl, trivial, Nat.le_max_right _ _, hf3, id, by show ((1 : Nat) : Int) + L ≤ 1 + L; omega, t4, f4⟩
    · exact ⟨.name w, L, rfl, hw, Nat.le_max_right _ _, hf3, id, by show ((1 : Nat) : Int) + L ≤ 1 + L; omega, t4, f4⟩
  · obtain ⟨hL, hd, hr⟩ := hb1 rfl
    obtain ⟨e, rfl⟩ : ∃ e, d = e + 1 := ⟨d - 1, by omega⟩
    have hrec := @hrec e rfl
    have he : ((e + 1 : Nat) : Int) - 1 = (e : Int) := by omega
    have hcs : cst (e + 1) = 90 + 2 * cst e := rfl
    have hce := cst_pos e
    walk_at "wp"
    refine y_ix (ix_first hf1) ?_
    walk_at "wp"
    refine y_intB ?_
    walk_at "wp"
    refine ⟨_, st_first hf1, ?_⟩
    have hn1 : f < S1.length := (List.getElem?_eq_some_iff.mp hf1).1
    have hv1 : r1 = 3 → (L - 1 - if decide ((3 : Int) < r1) = true then 1 else 0) = L - 1 := fun h => by rw [if_neg (by rw [decide_eq_true_eq]; omega)]; omega
    have hv2 : 3 < r1 → (L - 1 - if decide ((3 : Int) < r1) = true then 1 else 0) = L - 2 := fun h => by rw [if_pos (by rw [decide_eq_true_eq]; omega)]; omega
    generalize (L - 1 - if decide ((3 : Int) < r1) = true then 1 else 0) = v at hv1 hv2 ⊢
    have hf2 : (S1.set f (.lst [.int v]))[f]? = some (.lst [.int v]) := List.getElem?_set_self hn1
    have t2 : Tape n (b + 30) (S1.set f (.lst [.int v])) := t1.fr (ms := [f]) (Fr.set (by simp)) (by simp; omega)
    have f2 : Fr [n, f] S (S1.set f (.lst [.int v])) := f1.trans (Fr.set (by simp))
    generalize S1.set f (.lst [.int v]) = S2 at hf2 t2 f2 ⊢
    walk_at "wp"
    refine w_if ?_
    walk_at "wp"
    refine ite_b (fun c1 => ?_) (fun c1 => ?_)
    · have c1 := of_decide_eq_true c1
      have hv := hv1 c1
      walk_at "wp"
      refine ⟨rfl, ?_⟩
      rw [he]
      refine (hrec t2 (by omega) hf2).mono ?_
      rintro _ S3 ⟨x, L', rfl, hx, hxd, hf3, hL3, hp3, t3, f3⟩
      walk_at "wp"
      exact ⟨.neg x, L', rfl, hx, by show x.deep + 1 ≤ _; omega, hf3, fun _ => hL3 (by omega), by show ((x.parts + 1 : Nat) : Int) + L' ≤ _; omega, t3.mono (by omega), f2.trans f3⟩
    · have c1 := of_decide_eq_false c1
      have hv := hv2 (by omega)
      walk_at "wp"
      refine y_ixL (by omega) (show r1 - 4 < (6 : Int) by omega) fun u hu _ => ?_
      obtain ⟨o, rfl⟩ : ∃ o : Op, u = .str o.s := by
        simp only [List.mem_cons, List.mem_nil_iff, or_false] at hu
        rcases hu with rfl | rfl | rfl | rfl | rfl | rfl
        · exact ⟨.and, rfl⟩
        · exact ⟨.or, rfl⟩
        · exact ⟨.gives, rfl⟩
        · exact ⟨.same, rfl⟩
        · exact ⟨.and, rfl⟩
        · exact ⟨.or, rfl⟩
      walk_at "wp"
      refine ⟨rfl, ?_⟩
      rw [he]
      refine (hrec t2 (by omega) hf2).mono ?_
      rintro _ S3 ⟨x, L3, rfl, hx, hxd, hf3, hL3, hp3, t3, f3⟩
      walk_at "wp"
      refine ⟨rfl, ?_⟩
      rw [he]
      refine (hrec t3 (by omega) hf3).mono ?_
      rintro _ S4 ⟨y, L4, rfl, hy, hyd, hf4, hL4, hp4, t4, f4⟩
      walk_at "wp"
      exact ⟨.bin o x y, L4, rfl, ⟨hx, hy⟩, by show max x.deep y.deep + 1 ≤ _; omega, hf4, fun _ => hL4 (hL3 (by omega)), by show ((x.parts + y.parts + 1 : Nat) : Int) + L4 ≤ _; omega, t4.mono (by omega), f2.trans (f3.trans f4)⟩
theorem saying {n f : Nat} {ws : List Str} (hnf : n ≠ f) (hw0 : 1 ≤ ws.length) (hw1 : ws.length ≤ 1000) : ∀ (d k : Nat) {b L : Int} {S : Sto}, Tape n b S → b + cst d ≤ 2 ^ 100 → S[f]? = some (.lst [.int L]) →
    Y (call (d + k + 2) i_law_saying [.loc n, .lst (ws.map .str), .loc f, .int d] S) (SaidP n f ws b L d S)
  | 0, k, b, L, S, t, hb, hf => say_step hnf hw0 hw1 0 (0 + k) t hb hf fun e he => by cases he
  | d + 1, k, b, L, S, t, hb, hf => by
    have := say_step hnf hw0 hw1 (d + 1) (d + k + 1) t hb hf fun e he b L S t hb hf => by
      cases he
      exact saying hnf hw0 hw1 d k t hb hf
    rw [show d + 1 + k + 2 = d + k + 1 + 2 from by omega]
    exact this
def datS : Say → PyData
  | .yes => .tuple [.str "yes"]
  | .no => .tuple [.str "no"]
  | .name w => .tuple [.str "name", .str w]
  | .neg a => .tuple [.str "not", datS a]
  | .bin o a b => .tuple [.str o.s, datS a, datS b]
theorem dat_D : ∀ x : Say, toD x.u = some (datS x)
  | .yes => rfl
  | .no => rfl
  | .name w => rfl
  | .neg a => by simp only [Say.u, datS, toD, toDs, dat_D a, Option.map]
  | .bin o a b => by simp only [Say.u, datS, toD, toDs, dat_D a, dat_D b, Option.map]
theorem dat_show : ∀ x : Say, (datS x).showable = true ∧ (datS x).hasDict = false ∧ (datS x).depth ≤ x.deep
  | .yes => ⟨rfl, rfl, by decide⟩
  | .no => ⟨rfl, rfl, by decide⟩
  | .name w => ⟨rfl, rfl, by show max 0 (max 0 0) + 1 ≤ 1; decide⟩
  | .neg a => by
    obtain ⟨h1, h2, h3⟩ := dat_show a
    refine ⟨by simp only [datS, PyData.showable, PyData.showableAll, h1, Bool.and_true], by simp only [datS, PyData.hasDict, PyData.hasDictAll, h2, Bool.or_false], ?_⟩
    show max 0 (max (datS a).depth 0) + 1 ≤ a.deep + 1
    omega
  | .bin o a b => by
    obtain ⟨h1, h2, h3⟩ := dat_show a
    obtain ⟨g1, g2, g3⟩ := dat_show b
    refine ⟨by simp only [datS, PyData.showable, PyData.showableAll, h1, g1, Bool.and_true], by simp only [datS, PyData.hasDict, PyData.hasDictAll, h2, g2, Bool.or_false], ?_⟩
    show max 0 (max (datS a).depth (max (datS b).depth 0)) + 1 ≤ max a.deep b.deep + 1
    omega
theorem tup_len (ts : List Str) : (tupleText ts).length ≤ (ts.map (·.length)).sum + 2 * ts.length + 4 := by
  unfold tupleText
  have h := StrLaws.join_length_le ", " ts
  rw [len_app, len_app]
  have h1 : Str.length "(" = 1 := by decide +kernel
  have h2 : Str.length ", " = 2 := by decide +kernel
  have h3 : Str.length (Str.ofString (if (ts.length == 1) = true then ",)" else ")")) ≤ 2 := by split <;> decide +kernel
  rw [h2] at h
  rw [h1]
  omega
def Few8 (w : Str) : Prop := w.length ≤ 8 ∧ ∀ c ∈ w.cps.toList, c < 16 ^ 8
theorem few_len {w : Str} (h : Few8 w) : (reprText w).length ≤ 82 := by
  have := StrLaws.reprText_len w h.2
  have := h.1
  omega
theorem dat_len : ∀ x : Say, x.On Few8 → (datS x).shown.length ≤ 200 * x.parts
  | .yes, _ => by decide +kernel
  | .no, _ => by decide +kernel
  | .name w, h => by
    have h1 : (reprText "name").length ≤ 82 := by decide +kernel
    have h2 := few_len (w := w) h
    have := tup_len [reprText "name", reprText w]
    simp only [List.map_cons, List.map_nil, List.sum_cons, List.sum_nil, List.length_cons, List.length_nil] at this
    simp only [datS, PyData.shown, PyData.shownAll, Say.parts]
    omega
  | .neg a, h => by
    have h1 : (reprText "not").length ≤ 82 := by decide +kernel
    have h2 := dat_len a h
    have := tup_len [reprText "not", (datS a).shown]
    simp only [List.map_cons, List.map_nil, List.sum_cons, List.sum_nil, List.length_cons, List.length_nil] at this
    simp only [datS, PyData.shown, PyData.shownAll, Say.parts]
    omega
  | .bin o a b, h => by
    have h1 : (reprText o.s).length ≤ 82 := by cases o <;> decide +kernel
    have h2 := dat_len a h.1
    have h3 := dat_len b h.2
    have := tup_len [reprText o.s, (datS a).shown, (datS b).shown]
    simp only [List.map_cons, List.map_nil, List.sum_cons, List.sum_nil, List.length_cons, List.length_nil] at this
    simp only [datS, PyData.shown, PyData.shownAll, Say.parts]
    omega
theorem y_reprD {x : Say} {S : Sto} {Q : U → Sto → Prop} (hd : x.deep ≤ 60) (hl : x.parts ≤ 1000) (hw : x.On Few8) (h : Q (.str (datS x).shown) S) : Y (reprDC [x.u] S) Q := by
  have e : toDS x.u S = some (datS x) := toDS_toD (dat_D x)
  obtain ⟨h1, h2, h3⟩ := dat_show x
  have h4 := dat_len x hw
  unfold reprDC
  simp only [e]
  refine y_guard ?_ (y_ok h)
  rw [h1, h2, decide_eq_true (show (datS x).depth ≤ 60 by omega), decide_eq_true (show (datS x).shown.length ≤ sizeLine by rw [sizeL]; omega)]
  cases x <;> rfl
theorem y_wix {tab : List (Str × U)} {f : FE} {d : En} {S : Sto} {Q : U → Sto → Prop} (h : Y (f d S) fun u S1 => ∃ z y, u = .str z ∧ lookT tab z = some y ∧ Q y S1) : Y (fWix tab f d S) Q := y_bind (h.mono fun u S1 ⟨z, y, e, e2, q⟩ => by
  subst e
  dsimp only
  rw [e2]
  exact ⟨q⟩)
theorem y_wget2 {tab : List (Str × U)} {f g : FE} {d : En} {S : Sto} {Q : U → Sto → Prop} (h : Y (f d S) fun u S1 => Y (g d S1) fun z S2 => ∃ x, u = .str x ∧ Q ((lookT tab x).getD z) S2) : Y (fWget2 tab f g d S) Q := y_bind (h.mono fun u S1 h1 => y_bind (h1.mono fun z S2 ⟨x, e, q⟩ => by
  subst e
  exact ⟨q⟩))
def rkO : Op → Nat
  | .same => 1
  | .gives => 2
  | .or => 3
  | .and => 4
def rk : Say → Nat
  | .neg _ => 5
  | .bin o _ _ => rkO o
  | _ => 6
def sg : Op → Str
  | .same => "is"
  | .gives => "gives"
  | .or => "or"
  | .and => "and"
def lb (o : Op) (a : Say) : Bool := decide (rk a < rkO o) || (decide (rk a = rkO o) && decide (rkO o < 3))
def rb (o : Op) (b : Say) : Bool := decide (rk b ≤ rkO o)
def inb (b : Bool) (z : Str) : Str := if b then "(" ++ z ++ ")" else z
def shw : Say → Str
  | .yes => "yes"
  | .no => "no"
  | .name w => w
  | .neg a => "not " ++ inb (decide (rk a < 5)) (shw a)
  | .bin o a b => inb (lb o a) (shw a) ++ " " ++ sg o ++ " " ++ inb (rb o b) (shw b)
theorem inb_len (b : Bool) (z : Str) : (inb b z).length ≤ z.length + 2 := by
  unfold inb
  split
  · rw [len_app, len_app]
    show 1 + z.length + 1 ≤ z.length + 2
    omega
  · omega
theorem sg_len (o : Op) : (sg o).length ≤ 5 := by cases o <;> decide
theorem shw_len : ∀ {x : Say}, x.On WordL → (shw x).length + 2 ≤ 20 * x.parts
  | .yes, _ => by decide
  | .no, _ => by decide
  | .name w, h => by
    have : w.length ≤ 8 := h.2.2
    show w.length + 2 ≤ 20 * 1
    omega
  | .neg a, h => by
    have ih := shw_len (x := a) h
    have h1 := inb_len (decide (rk a < 5)) (shw a)
    show ("not " ++ inb (decide (rk a < 5)) (shw a)).length + 2 ≤ 20 * (a.parts + 1)
    rw [len_app]
    show 4 + _ + 2 ≤ _
    omega
  | .bin o a b, h => by
    have iha := shw_len h.1
    have ihb := shw_len h.2
    have h1 := inb_len (lb o a) (shw a)
    have h2 := inb_len (rb o b) (shw b)
    have h3 := sg_len o
    show (inb (lb o a) (shw a) ++ " " ++ sg o ++ " " ++ inb (rb o b) (shw b)).length + 2 ≤ 20 * (a.parts + b.parts + 1)
    rw [len_app, len_app, len_app, len_app]
    show _ + 1 + _ + 1 + _ + 2 ≤ _
    omega
theorem in_brackets {k : Nat} {b : Bool} {z : Str} {S : Sto} (hz : z.length ≤ 1000000) : Y (call (k + 1) i_in_brackets [.str z, .bl b] S) fun u S' => u = .str (inb b z) ∧ S' = S := by
  refine y_run ?_
  show WS (b_in_brackets (call k) [some (.str z), some (.bl b)] S) _
  unfold b_in_brackets
  refine w_ret (y_if ?_)
  walk_at "wp"
  cases b with
  | true =>
    refine ite_b (fun _ => ?_) (fun z => by cases z)
    walk_at "wp"
    refine y_addS (by show 1 + z.length ≤ _; rw [sizeL]; omega) ?_
    walk_at "wp"
    refine y_addS (by rw [len_app, sizeL]; show 1 + z.length + 1 ≤ _; omega) ?_
    exact ⟨rfl, rfl⟩
  | false =>
    refine ite_b (fun z => by cases z) (fun _ => ?_)
    walk_at "wp"
    exact ⟨rfl, rfl⟩
def wd : Say → Str
  | .yes => "yes"
  | .no => "no"
  | .name _ => "name"
  | .neg _ => "not"
  | .bin o _ _ => o.s
theorem wd_ix (x : Say) (S : Sto) : ixB x.u (.int 0) S = some (.str (wd x)) := by cases x <;> rfl
theorem rk_look (x : Say) : lookT t_RANKS (wd x) = some (.int (rk x : Int)) := by
  cases x with
  | bin o a b => cases o <;> rfl
  | _ => rfl
theorem rkO_pos (o : Op) : 1 ≤ rkO o ∧ rkO o ≤ 4 := by cases o <;> decide
theorem lb_ev {fa fb : FE} {d : En} {S : Sto} {i j : Nat} (ha : Y (fa d S) fun u S1 => u = .int (i : Int) ∧ S1 = S) (hb : Y (fb d S) fun u S1 => u = .int (j : Int) ∧ S1 = S) : Y (fOrV (f2 ltU fa fb) (fAndV (f2 DL.eqU fa fb) (f2 ltU fb (fC (.int 3)))) d S) fun u S1 => u = .bl (decide (i < j) || (decide (i = j) && decide (j < 3))) ∧ S1 = S := by
  refine y_orV (y_f2 (ha.mono ?_))
  rintro _ S1 ⟨rfl, hS⟩
  subst S1
  refine hb.mono ?_
  rintro _ S1 ⟨rfl, hS⟩
  subst S1
  refine y_ltI ?_
  by_cases h1 : i < j
  · rw [decide_eq_true (show (i : Int) < (j : Int) by omega), decide_eq_true h1]
    refine y_tbl ?_
    rw [if_pos rfl]
    exact ⟨rfl, rfl⟩
  · rw [decide_eq_false (show ¬ (i : Int) < (j : Int) by omega), decide_eq_false h1, Bool.false_or]
    refine y_tbl ?_
    rw [if_neg Bool.false_ne_true]
    refine y_andV (y_f2 (ha.mono ?_))
    rintro _ S1 ⟨rfl, hS⟩
    subst S1
    refine hb.mono ?_
    rintro _ S1 ⟨rfl, hS⟩
    subst S1
    refine y_eqI ?_
    by_cases h2 : i = j
    · rw [decide_eq_true (show (i : Int) = (j : Int) by omega), decide_eq_true h2, Bool.true_and]
      refine y_tbl ?_
      rw [if_pos rfl]
      refine y_f2 (hb.mono ?_)
      rintro _ S1 ⟨rfl, hS⟩
      subst S1
      refine y_C (y_ltI ?_)
      refine ⟨?_, rfl⟩
      congr 1
      exact decide_eq_decide.mpr (by omega)
    · rw [decide_eq_false (show ¬ (i : Int) = (j : Int) by omega), decide_eq_false h2, Bool.false_and]
      refine y_tbl ?_
      rw [if_neg Bool.false_ne_true]
      exact ⟨rfl, rfl⟩
set_option maxHeartbeats 1000000 in
theorem show_saying : ∀ (x : Say) (m : Nat) {S : Sto}, x.deep + 1 ≤ m → x.parts ≤ 10000 → x.On WordL → Y (call m i_show_saying [x.u] S) fun u S' => u = .str (shw x) ∧ S' = S
  | x, 0, S, hd, hp, hw => absurd hd (by omega)
  | .yes, m + 1, S, hd, hp, hw => by
    rw [show call (m + 1) i_show_saying [Say.u .yes] S = .ok (.str "yes") S from by kernel_rfl]
    exact y_ok ⟨rfl, rfl⟩
  | .no, m + 1, S, hd, hp, hw => by
    rw [show call (m + 1) i_show_saying [Say.u .no] S = .ok (.str "no") S from by kernel_rfl]
    exact y_ok ⟨rfl, rfl⟩
  | .name w, m + 1, S, hd, hp, hw => by
    rw [show call (m + 1) i_show_saying [Say.u (.name w)] S = .ok (.str w) S from by kernel_rfl]
    exact y_ok ⟨rfl, rfl⟩
  | .neg a, m + 1, S, hd, hp, hw => by
    have hd : a.deep + 1 + 1 ≤ m + 1 := hd
    have hp : a.parts + 1 ≤ 10000 := hp
    have hl := shw_len (x := a) hw
    obtain ⟨k, rfl⟩ : ∃ k, m = k + 1 := ⟨m - 1, by omega⟩
    refine y_run ?_
    show WS (b_show_saying (call (k + 1)) [some (Say.u (.neg a)), none, none, none, none, none] S) _
    unfold b_show_saying
    refine w_seq (w_par ?_)
    walk_at "wp"
    refine y_ix (u := .str "not") rfl ?_
    refine y_cons (y_wix ?_)
    walk_at "wp"
    refine y_ix (u := .str "not") rfl ?_
    refine ⟨_, _, rfl, rk_look (.neg a), ?_⟩
    walk_at "wp"
    refine ⟨_, _, rfl, ?_⟩
    refine w_seq (w_if ?_)
    walk_at "wp"
    refine ite_b (fun c => absurd c (by decide)) (fun _ => ?_)
    refine w_nop ?_
    refine w_seq (w_if ?_)
    walk_at "wp"
    refine y_inT ["yes", "no"] rfl ?_
    walk_at "wp"
    refine ite_b (fun c => absurd c (by decide)) (fun _ => ?_)
    refine w_nop ?_
    refine w_seq (w_if ?_)
    walk_at "wp"
    refine ite_b (fun _ => ?_) (fun c => absurd c (by decide))
    walk_at "wp"
    refine y_ix (u := a.u) rfl ?_
    walk_at "wp"
    refine ⟨rfl, (show_saying a (k + 1) (by omega) (by omega) hw).mono ?_⟩
    rintro _ S1 ⟨rfl, hS⟩
    subst S1
    refine y_cons (y_f2 (y_wix ?_))
    walk_at "wp"
    refine y_ix (u := a.u) rfl ?_
    walk_at "wp"
    refine y_ix (wd_ix a S) ?_
    refine ⟨_, _, rfl, rk_look a, ?_⟩
    walk_at "wp"
    have er : decide ((rk a : Int) < (rk (.neg a) : Int)) = decide (rk a < 5) := decide_eq_decide.mpr (by show (rk a : Int) < ((5 : Nat) : Int) ↔ _; omega)
    rw [er]
    refine ⟨rfl, (in_brackets (k := k) (by omega)).mono ?_⟩
    rintro _ S1 ⟨rfl, hS⟩
    subst S1
    have h1 := inb_len (decide (rk a < 5)) (shw a)
    refine y_addS (by show 4 + _ ≤ _; rw [sizeL]; omega) ?_
    exact ⟨rfl, rfl⟩
  | .bin o a b, m + 1, S, hd, hp, hw => by
    have hd : max a.deep b.deep + 1 + 1 ≤ m + 1 := hd
    have hp : a.parts + b.parts + 1 ≤ 10000 := hp
    have hla := shw_len hw.1
    have hlb := shw_len hw.2
    have ro := rkO_pos o
    obtain ⟨k, rfl⟩ : ∃ k, m = k + 1 := ⟨m - 1, by omega⟩
    refine y_run ?_
    show WS (b_show_saying (call (k + 1)) [some (Say.u (.bin o a b)), none, none, none, none, none] S) _
    unfold b_show_saying
    refine w_seq (w_par ?_)
    walk_at "wp"
    refine y_ix (u := .str o.s) rfl ?_
    refine y_cons (y_wix ?_)
    walk_at "wp"
    refine y_ix (u := .str o.s) rfl ?_
    refine ⟨_, _, rfl, rk_look (.bin o a b), ?_⟩
    walk_at "wp"
    refine ⟨_, _, rfl, ?_⟩
    refine w_seq (w_if ?_)
    walk_at "wp"
    refine ite_b (fun c => absurd c (by cases o <;> decide)) (fun _ => ?_)
    refine w_nop ?_
    refine w_seq (w_if ?_)
    walk_at "wp"
    refine y_inT ["yes", "no"] rfl ?_
    walk_at "wp"
    refine ite_b (fun c => absurd c (by cases o <;> decide)) (fun _ => ?_)
    refine w_nop ?_
    refine w_seq (w_if ?_)
    walk_at "wp"
    refine ite_b (fun c => absurd c (by cases o <;> decide)) (fun _ => ?_)
    refine w_nop ?_
    refine w_seq (w_par ?_)
    refine y_cons (y_wix ?_)
    walk_at "wp"
    refine y_ix (u := a.u) rfl ?_
    walk_at "wp"
    refine y_ix (wd_ix a S) ?_
    refine ⟨_, _, rfl, rk_look a, ?_⟩
    refine y_cons (y_wix ?_)
    walk_at "wp"
    refine y_ix (u := b.u) rfl ?_
    walk_at "wp"
    refine y_ix (wd_ix b S) ?_
    refine ⟨_, _, rfl, rk_look b, ?_⟩
    walk_at "wp"
    refine ⟨_, _, rfl, ?_⟩
    refine w_seq (w_set ?_)
    walk_at "wp"
    refine y_ix (u := a.u) rfl ?_
    walk_at "wp"
    refine ⟨rfl, (show_saying a (k + 1) (by omega) (by omega) hw.1).mono ?_⟩
    rintro _ S1 ⟨rfl, hS⟩
    subst S1
    refine y_cons ((lb_ev (i := rk a) (j := rkO o) (y_var rfl ⟨rfl, rfl⟩) (y_var rfl ⟨rfl, rfl⟩)).mono ?_)
    rintro _ S1 ⟨rfl, hS⟩
    subst S1
    walk_at "wp"
    refine ⟨rfl, (in_brackets (k := k) (b := lb o a) (by omega)).mono ?_⟩
    rintro _ S1 ⟨rfl, hS⟩
    subst S1
    have h1 := inb_len (lb o a) (shw a)
    have h2 := inb_len (rb o b) (shw b)
    have h3 := sg_len o
    walk_at "wp"
    refine y_addS (by show _ + 1 ≤ _; rw [sizeL]; omega) ?_
    refine y_wix ?_
    walk_at "wp"
    refine ⟨_, .str (sg o), rfl, by cases o <;> rfl, ?_⟩
    refine y_addS (by rw [len_app, sizeL]; show _ + 1 + _ ≤ _; omega) ?_
    walk_at "wp"
    refine y_addS (by rw [len_app, len_app, sizeL]; show _ + 1 + _ + 1 ≤ _; omega) ?_
    walk_at "wp"
    refine y_ix (u := b.u) rfl ?_
    walk_at "wp"
    refine ⟨rfl, (show_saying b (k + 1) (by omega) (by omega) hw.2).mono ?_⟩
    rintro _ S1 ⟨rfl, hS⟩
    subst S1
    walk_at "wp"
    have er : decide ((rk b : Int) ≤ (rk (.bin o a b) : Int)) = rb o b := decide_eq_decide.mpr (by show (rk b : Int) ≤ (rkO o : Int) ↔ _; omega)
    rw [er]
    refine ⟨rfl, (in_brackets (k := k) (by omega)).mono ?_⟩
    rintro _ S1 ⟨rfl, hS⟩
    subst S1
    refine y_addS (by rw [len_app, len_app, len_app, sizeL]; show _ + 1 + _ + 1 + _ ≤ _; omega) ?_
    exact ⟨rfl, rfl⟩
theorem law_rank (x : Say) (m : Nat) (S : Sto) : call (m + 1) i_law_rank [x.u] S = .ok (.int (rk x : Int)) S := by
  cases x with
  | bin o a b => cases o <;> kernel_rfl
  | _ => kernel_rfl
theorem str_assoc (x y z : Str) : x ++ y ++ z = x ++ (y ++ z) := TL.ext_tl (by rw [TL.tl_append, TL.tl_append, TL.tl_append, TL.tl_append, List.append_assoc])
theorem shw_mid (o : Op) (a b : Say) : shw (.bin o a b) = inb (lb o a) (shw a) ++ (" " ++ sg o ++ " ") ++ inb (rb o b) (shw b) := by
  show inb (lb o a) (shw a) ++ " " ++ sg o ++ " " ++ inb (rb o b) (shw b) = _
  rw [str_assoc (inb (lb o a) (shw a)) " " (sg o), str_assoc (inb (lb o a) (shw a)) (" " ++ sg o) " "]
def brk (z : Say) : Str := "(" ++ shw z ++ ")"
theorem inb_if (b : Bool) (z : Say) : inb b (shw z) = if b then brk z else shw z := rfl
set_option maxHeartbeats 2000000 in
theorem law_text : ∀ (x : Say) (m : Nat) {S : Sto}, x.deep ≤ m → x.parts ≤ 10000 → x.On WordL → Y (call m i_law_text [x.u] S) fun u S' => u = .str (shw x) ∧ S' = S
  | x, 0, S, hd, hp, hw => absurd hd (by have := x.deep_pos; omega)
  | .yes, m + 1, S, hd, hp, hw => by
    rw [show call (m + 1) i_law_text [Say.u .yes] S = .ok (.str "yes") S from by kernel_rfl]
    exact y_ok ⟨rfl, rfl⟩
  | .no, m + 1, S, hd, hp, hw => by
    rw [show call (m + 1) i_law_text [Say.u .no] S = .ok (.str "no") S from by kernel_rfl]
    exact y_ok ⟨rfl, rfl⟩
  | .name w, m + 1, S, hd, hp, hw => by
    rw [show call (m + 1) i_law_text [Say.u (.name w)] S = .ok (.str w) S from by kernel_rfl]
    exact y_ok ⟨rfl, rfl⟩
  | .neg a, m + 1, S, hd, hp, hw => by
    have hd : a.deep + 1 ≤ m + 1 := hd
    have hp : a.parts + 1 ≤ 10000 := hp
    have hl := shw_len (x := a) hw
    obtain ⟨k, rfl⟩ : ∃ k, m = k + 1 := ⟨m - 1, by have := a.deep_pos; omega⟩
    refine y_run ?_
    show WS (b_law_text (call (k + 1)) [some (Say.u (.neg a)), none, none, none, none, none, none, none, none, none] S) _
    unfold b_law_text
    walk_at "wp"
    refine y_ix (u := .str "not") rfl ?_
    refine w_seq (w_if ?_)
    walk_at "wp"
    refine y_inT ["yes", "no"] rfl ?_
    walk_at "wp"
    refine ite_b (fun c => absurd c (by decide)) (fun _ => ?_)
    refine w_nop ?_
    refine w_seq (w_if ?_)
    walk_at "wp"
    refine ite_b (fun c => absurd c (by decide)) (fun _ => ?_)
    walk_at "wp"
    refine ⟨_, rfl, ?_⟩
    walk_at "wp"
    refine y_slT ?_
    rw [cut_one]
    refine ⟨_, rfl, ?_⟩
    refine y_compX Say.u (fun z => .str (shw z)) [a] [] (fun z hz => ?_) (by simp only [List.length_cons, List.length_nil]; decide) ?_
    · obtain rfl := List.mem_singleton.mp hz
      refine ⟨_, rfl, ?_⟩
      walk_at "wp"
      exact ⟨rfl, law_text z (k + 1) (by omega) (by omega) hw⟩
    walk_at "wp"
    refine ⟨_, rfl, ?_⟩
    walk_at "wp"
    refine y_slT ?_
    rw [cut_one]
    refine ⟨_, rfl, ?_⟩
    refine y_compX Say.u (fun z => .int (rk z : Int)) [a] [] (fun z hz => ?_) (by simp only [List.length_cons, List.length_nil]; decide) ?_
    · obtain rfl := List.mem_singleton.mp hz
      refine ⟨_, rfl, ?_⟩
      walk_at "wp"
      exact ⟨rfl, Y.of (law_rank z k S) ⟨rfl, rfl⟩⟩
    walk_at "wp"
    refine ⟨_, rfl, ?_⟩
    refine y_compX (fun z : Say => U.str (shw z)) (fun z => .str (brk z)) [a] [] (fun z hz => ?_) (by simp only [List.length_cons, List.length_nil]; decide) ?_
    · obtain rfl := List.mem_singleton.mp hz
      refine ⟨_, rfl, ?_⟩
      walk_at "wp"
      refine y_addS (by show 1 + _ ≤ _; rw [sizeL]; omega) ?_
      walk_at "wp"
      refine y_addS (by rw [len_app, sizeL]; show 1 + _ + 1 ≤ _; omega) ?_
      exact ⟨rfl, rfl⟩
    refine w_seq (w_if ?_)
    walk_at "wp"
    refine ite_b (fun _ => ?_) (fun c => absurd c (by decide))
    refine w_ret (y_f2 (y_C (y_if ?_)))
    walk_at "wp"
    refine y_ix (u := .int (rk a : Int)) rfl ?_
    walk_at "wp"
    have h1 := inb_len (decide (rk a < 5)) (shw a)
    by_cases h5 : rk a < 5
    · refine ite_b (fun _ => ?_) (fun z => absurd (of_decide_eq_false z) (by omega))
      walk_at "wp"
      refine y_ix (u := .str (brk a)) rfl ?_
      have e : inb (decide (rk a < 5)) (shw a) = brk a := by rw [decide_eq_true h5]; rfl
      rw [e] at h1
      refine y_addS (by show 4 + _ ≤ _; rw [sizeL]; omega) ?_
      refine ⟨?_, rfl⟩
      show _ = U.str ("not " ++ inb (decide (rk a < 5)) (shw a))
      rw [e]
    · refine ite_b (fun z => absurd (of_decide_eq_true z) (by omega)) (fun _ => ?_)
      walk_at "wp"
      refine y_ix (u := .str (shw a)) rfl ?_
      have e : inb (decide (rk a < 5)) (shw a) = shw a := by rw [decide_eq_false h5]; rfl
      rw [e] at h1
      refine y_addS (by show 4 + _ ≤ _; rw [sizeL]; omega) ?_
      refine ⟨?_, rfl⟩
      show _ = U.str ("not " ++ inb (decide (rk a < 5)) (shw a))
      rw [e]
  | .bin o a b, m + 1, S, hd, hp, hw => by
    have hd : max a.deep b.deep + 1 ≤ m + 1 := hd
    have hp : a.parts + b.parts + 1 ≤ 10000 := hp
    have hla := shw_len hw.1
    have hlb := shw_len hw.2
    have ro := rkO_pos o
    obtain ⟨k, rfl⟩ : ∃ k, m = k + 1 := ⟨m - 1, by have := a.deep_pos; omega⟩
    refine y_run ?_
    show WS (b_law_text (call (k + 1)) [some (Say.u (.bin o a b)), none, none, none, none, none, none, none, none, none] S) _
    unfold b_law_text
    walk_at "wp"
    refine y_ix (u := .str o.s) rfl ?_
    refine w_seq (w_if ?_)
    walk_at "wp"
    refine y_inT ["yes", "no"] rfl ?_
    walk_at "wp"
    refine ite_b (fun c => absurd c (by cases o <;> decide)) (fun _ => ?_)
    refine w_nop ?_
    refine w_seq (w_if ?_)
    walk_at "wp"
    refine ite_b (fun c => absurd c (by cases o <;> decide)) (fun _ => ?_)
    walk_at "wp"
    refine ⟨_, rfl, ?_⟩
    walk_at "wp"
    refine y_slT ?_
    rw [cut_one]
    refine ⟨_, rfl, ?_⟩
    have two : ∀ z ∈ [a, b], z.deep ≤ k + 1 ∧ z.parts ≤ 10000 ∧ z.On WordL ∧ (shw z).length + 2 ≤ 200000 := fun z hz => by
      simp only [List.mem_cons, List.mem_nil_iff, or_false] at hz
      rcases hz with rfl | rfl
      · exact ⟨by omega, by omega, hw.1, by omega⟩
      · exact ⟨by omega, by omega, hw.2, by omega⟩
    refine y_compX Say.u (fun z => .str (shw z)) [a, b] [] (fun z hz => ?_) (by simp only [List.length_cons, List.length_nil]; decide) ?_
    · have h2 := two z hz
      refine ⟨_, rfl, ?_⟩
      walk_at "wp"
      simp only [List.mem_cons, List.mem_nil_iff, or_false] at hz
      rcases hz with rfl | rfl
      · exact ⟨rfl, law_text _ (k + 1) h2.1 h2.2.1 h2.2.2.1⟩
      · exact ⟨rfl, law_text _ (k + 1) h2.1 h2.2.1 h2.2.2.1⟩
    walk_at "wp"
    refine ⟨_, rfl, ?_⟩
    walk_at "wp"
    refine y_slT ?_
    rw [cut_one]
    refine ⟨_, rfl, ?_⟩
    refine y_compX Say.u (fun z => .int (rk z : Int)) [a, b] [] (fun z hz => ?_) (by simp only [List.length_cons, List.length_nil]; decide) ?_
    · refine ⟨_, rfl, ?_⟩
      walk_at "wp"
      exact ⟨rfl, Y.of (law_rank z k S) ⟨rfl, rfl⟩⟩
    walk_at "wp"
    refine ⟨_, rfl, ?_⟩
    refine y_compX (fun z : Say => U.str (shw z)) (fun z => .str (brk z)) [a, b] [] (fun z hz => ?_) (by simp only [List.length_cons, List.length_nil]; decide) ?_
    · have h2 := (two z hz).2.2.2
      refine ⟨_, rfl, ?_⟩
      walk_at "wp"
      refine y_addS (by show 1 + _ ≤ _; rw [sizeL]; omega) ?_
      walk_at "wp"
      refine y_addS (by rw [len_app, sizeL]; show 1 + _ + 1 ≤ _; omega) ?_
      exact ⟨rfl, rfl⟩
    refine w_seq (w_if ?_)
    walk_at "wp"
    refine ite_b (fun c => absurd c (by cases o <;> decide)) (fun _ => ?_)
    walk_at "wp"
    refine ⟨rfl, Y.of (law_rank (.bin o a b) k S) ?_⟩
    refine w_seq (w_set ((lb_ev (i := rk a) (j := rkO o) (y_f2 (y_var rfl (y_C (y_ix (u := .int (rk a : Int)) rfl ⟨rfl, rfl⟩)))) (y_var rfl ⟨rfl, rfl⟩)).mono ?_))
    rintro _ S1 ⟨rfl, hS⟩
    subst S1
    refine w_seq (w_set (Y.of (a := .str (" " ++ sg o ++ " ")) (S := S) (by cases o <;> kernel_rfl) ?_))
    have h1 := inb_len (lb o a) (shw a)
    have h2 := inb_len (rb o b) (shw b)
    have h3 : (" " ++ sg o ++ " ").length ≤ 7 := by cases o <;> decide
    have eR : (rk (.bin o a b) : Int) = (rkO o : Int) := rfl
    have left : Y ((fIf (fTru (fVar 6)) (f2 ixU (fVar 4) (fC (.int 0))) (f2 ixU (fVar 2) (fC (.int 0)))) ([some (Say.u (.bin o a b)), some (.str o.s), some (.lst [.str (shw a), .str (shw b)]), some (.lst [.int (rk a : Int), .int (rk b : Int)]), some (.lst [.str (brk a), .str (brk b)]), some (.int (rk (.bin o a b) : Int)), some (.bl (lb o a)), some (.str (" " ++ sg o ++ " ")), none, none]) S) fun u S1 => u = .str (inb (lb o a) (shw a)) ∧ S1 = S := by
      refine y_if ?_
      walk_at "wp"
      rw [inb_if]
      refine ite_b (fun q => ?_) (fun q => ?_)
      · rw [if_pos q]
        walk_at "wp"
        refine y_ix (u := .str (brk a)) rfl ?_
        exact ⟨rfl, rfl⟩
      · rw [if_neg (by rw [q]; exact Bool.false_ne_true)]
        walk_at "wp"
        refine y_ix (u := .str (shw a)) rfl ?_
        exact ⟨rfl, rfl⟩
    refine w_ret (y_f2 (y_f2 (left.mono ?_)))
    rintro _ S1 ⟨rfl, hS⟩
    subst S1
    walk_at "wp"
    refine y_addS (by rw [sizeL]; omega) ?_
    refine y_if ?_
    walk_at "wp"
    refine y_ix (u := .int (rk b : Int)) rfl ?_
    walk_at "wp"
    have hl2 : (inb (lb o a) (shw a) ++ (" " ++ sg o ++ " ")).length = (inb (lb o a) (shw a)).length + (" " ++ sg o ++ " ").length := len_app _ _
    by_cases h5 : rk b ≤ rkO o
    · refine ite_b (fun _ => ?_) (fun z => absurd (of_decide_eq_false z) (by rw [eR]; omega))
      walk_at "wp"
      refine y_ix (u := .str (brk b)) rfl ?_
      have e : inb (rb o b) (shw b) = brk b := by unfold rb; rw [decide_eq_true h5]; rfl
      rw [e] at h2
      refine y_addS (by rw [hl2, sizeL]; omega) ?_
      refine ⟨?_, rfl⟩
      rw [shw_mid, e]
    · refine ite_b (fun z => absurd (of_decide_eq_true z) (by rw [eR]; omega)) (fun _ => ?_)
      walk_at "wp"
      refine y_ix (u := .str (shw b)) rfl ?_
      have e : inb (rb o b) (shw b) = shw b := by unfold rb; rw [decide_eq_false h5]; rfl
      rw [e] at h2
      refine y_addS (by rw [hl2, sizeL]; omega) ?_
      refine ⟨?_, rfl⟩
      rw [shw_mid, e]
theorem low_let : ∀ c, c < 123 → 97 ≤ c → inStr ⟨#[c]⟩ "abcdefghijklmnopqrstuvwxyz" = true := by decide +kernel
theorem low_letters {v : Str} (hv : Low v) : lettersB v = true := by
  unfold lettersB
  rw [List.all_eq_true]
  exact fun c hc => low_let c (by have := hv c hc; omega) (hv c hc).1
def GW (w : Str) : Prop := WordL w ∧ w ∉ w7
theorem gw_word {w : Str} (h : GW w) : wordB (.str w) = true := by
  rw [wordB_str, low_letters h.1.1, decide_eq_true h.1.2.1, decide_eq_true h.1.2.2, decide_eq_false h.2]
  rfl
theorem gw_pl {w : Str} (h : GW w) : Pl 0 0 (.str w) := Pl.strs ⟨h.1.1.ok, by rw [sizeL]; have := h.1.2.2; omega⟩
def kids : Say → List Say
  | .neg a => [a]
  | .bin _ a b => [a, b]
  | _ => []
def isNm : Say → Bool
  | .name _ => true
  | _ => false
theorem kid_u {x : Say} (h : isNm x = false) : x.u = .tup (.str (wd x) :: (kids x).map Say.u) := by cases x <;> first | rfl | cases h
theorem kid_sum {x : Say} (h : isNm x = false) : x.parts = 1 + ((kids x).map Say.parts).sum := by
  cases x with
  | bin o a b => show a.parts + b.parts + 1 = 1 + (a.parts + (b.parts + 0)); omega
  | neg a => show a.parts + 1 = 1 + (a.parts + 0); omega
  | name w => cases h
  | _ => rfl
theorem kid_deep {x a : Say} (h : a ∈ kids x) : a.deep + 1 ≤ x.deep := by
  cases x with
  | bin o c d =>
    simp only [kids, List.mem_cons, List.mem_nil_iff, or_false] at h
    show _ ≤ max c.deep d.deep + 1
    rcases h with rfl | rfl <;> omega
  | neg c =>
    simp only [kids, List.mem_cons, List.mem_nil_iff, or_false] at h
    subst h
    exact Nat.le_refl _
  | _ => cases h
theorem kid_on {P : Str → Prop} {x a : Say} (hx : x.On P) (h : a ∈ kids x) : a.On P := by
  cases x with
  | bin o c d =>
    simp only [kids, List.mem_cons, List.mem_nil_iff, or_false] at h
    rcases h with rfl | rfl
    · exact hx.1
    · exact hx.2
  | neg c =>
    simp only [kids, List.mem_cons, List.mem_nil_iff, or_false] at h
    subst h
    exact hx
  | _ => cases h
theorem many_look {x : Say} (h : isNm x = false) : lookT t_MANY (wd x) = some (.int ((kids x).length : Int)) := by
  cases x with
  | bin o a b => cases o <;> rfl
  | name w => cases h
  | _ => rfl
theorem wd_nm {x : Say} (h : isNm x = false) : wd x ≠ "name" := by
  cases x with
  | bin o a b => show o.s ≠ "name"; cases o <;> decide
  | name w => cases h
  | neg a => show ("not" : Str) ≠ "name"; decide
  | yes => show ("yes" : Str) ≠ "name"; decide
  | no => show ("no" : Str) ≠ "name"; decide
set_option maxHeartbeats 1000000 in
theorem parts_in : ∀ (m : Nat) (x : Say) (d : Nat) {S : Sto}, x.deep + 1 ≤ m → d + x.deep ≤ 26 → x.parts ≤ 400 → x.On GW → Y (call m i_parts_in [x.u, .int (d : Int)] S) fun u S' => u = .int (x.parts : Int) ∧ S' = S
  | 0, x, d, S, hm, hd, hp, hw => absurd hm (by omega)
  | m + 1, x, d, S, hm, hd, hp, hw => by
    have hdp := x.deep_pos
    by_cases hn : isNm x = true
    · obtain ⟨w, rfl⟩ : ∃ w, x = .name w := by
        cases x with
        | name w => exact ⟨w, rfl⟩
        | _ => cases hn
      obtain ⟨k, rfl⟩ : ∃ k, m = k + 1 := ⟨m - 1, by omega⟩
      refine y_run ?_
      show WS (b_parts_in (call (k + 1)) [some (.tup [.str "name", .str w]), some (.int (d : Int)), none, none, none] S) _
      unfold b_parts_in
      refine w_seq (w_if ?_)
      walk_at "wp"
      refine y_gtI (j := 25) ?_
      walk_at "wp"
      refine ite_b (fun z => absurd (of_decide_eq_true z) (by omega)) (fun _ => ?_)
      walk_at "wp"
      refine Y.of (show isiC [.tup [.str "name", .str w], .ty "tuple"] S = .ok (.bl true) S from rfl) ?_
      walk_at "wp"
      refine ite_b (fun z => by cases z) (fun _ => ?_)
      walk_at "wp"
      refine y_lenT ?_
      walk_at "wp"
      refine ite_b (fun z => absurd z (by simp)) (fun _ => ?_)
      walk_at "wp"
      refine y_ix (u := .str "name") rfl ?_
      walk_at "wp"
      refine Y.of (show isiC [.str "name", .ty "str"] S = .ok (.bl true) S from rfl) ?_
      walk_at "wp"
      refine ite_b (fun z => by cases z) (fun _ => ?_)
      refine w_nop ?_
      refine w_seq (w_if ?_)
      walk_at "wp"
      refine y_ix (u := .str "name") rfl ?_
      walk_at "wp"
      refine ite_b (fun _ => ?_) (fun z => absurd z (by decide))
      refine w_ret (y_if ?_)
      walk_at "wp"
      refine y_lenT ?_
      walk_at "wp"
      refine ite_b (fun _ => ?_) (fun z => absurd z (by simp))
      walk_at "wp"
      refine y_ix (u := .str w) rfl ?_
      walk_at "wp"
      refine ⟨rfl, (is_word (k := k) (gw_pl hw)).mono ?_⟩
      rintro _ S1 ⟨rfl, hS⟩
      subst S1
      rw [gw_word hw]
      walk_at "wp"
      refine ite_b (fun _ => ?_) (fun z => by cases z)
      walk_at "wp"
      exact ⟨rfl, rfl⟩
    · have hn : isNm x = false := by simpa using hn
      have hsum := kid_sum hn
      have hix : ixB (.tup (.str (wd x) :: (kids x).map Say.u)) (.int 0) S = some (.str (wd x)) := by rw [← kid_u hn]; exact wd_ix x S
      refine y_run ?_
      rw [kid_u hn]
      show WS (b_parts_in (call m) [some (.tup (.str (wd x) :: (kids x).map Say.u)), some (.int (d : Int)), none, none, none] S) _
      unfold b_parts_in
      refine w_seq (w_if ?_)
      walk_at "wp"
      refine y_gtI (j := 25) ?_
      walk_at "wp"
      refine ite_b (fun z => absurd (of_decide_eq_true z) (by omega)) (fun _ => ?_)
      walk_at "wp"
      refine Y.of (show isiC [.tup (.str (wd x) :: (kids x).map Say.u), .ty "tuple"] S = .ok (.bl true) S from rfl) ?_
      walk_at "wp"
      refine ite_b (fun z => by cases z) (fun _ => ?_)
      walk_at "wp"
      refine y_lenT ?_
      rw [List.length_cons, List.length_map]
      walk_at "wp"
      refine ite_b (fun z => absurd (of_decide_eq_true z) (by omega)) (fun _ => ?_)
      walk_at "wp"
      refine y_ix hix ?_
      walk_at "wp"
      refine Y.of (show isiC [.str (wd x), .ty "str"] S = .ok (.bl true) S from rfl) ?_
      walk_at "wp"
      refine ite_b (fun z => by cases z) (fun _ => ?_)
      refine w_nop ?_
      refine w_seq (w_if ?_)
      walk_at "wp"
      refine y_ix hix ?_
      walk_at "wp"
      refine ite_b (fun z => absurd (of_decide_eq_true z) (wd_nm hn)) (fun _ => ?_)
      walk_at "wp"
      refine y_ix hix ?_
      refine ⟨_, rfl, ?_⟩
      rw [many_look hn, Option.getD_some]
      refine w_seq (w_if ?_)
      walk_at "wp"
      refine ite_b (fun z => by cases z) (fun _ => ?_)
      walk_at "wp"
      refine y_lenT ?_
      rw [List.length_cons, List.length_map]
      walk_at "wp"
      refine ite_b (fun z => absurd z (by simp; omega)) (fun _ => ?_)
      walk_at "wp"
      refine ⟨_, rfl, ?_⟩
      walk_at "wp"
      refine y_slT ?_
      rw [cut_one]
      refine ⟨_, rfl, ?_⟩
      refine w_loop (fun us d' S' => ∃ (rest : List Say) (acc : Nat) (x4 : Option U), us = rest.map Say.u ∧ (∀ a ∈ rest, a ∈ kids x) ∧ acc + (rest.map Say.parts).sum = x.parts ∧ d' = [some (.tup (.str (wd x) :: (kids x).map Say.u)), some (.int (d : Int)), some (.int ((kids x).length : Int)), some (.int (acc : Int)), x4] ∧ S' = S) ?_ ?_ _ _ _ ⟨kids x, 1, _, rfl, fun a ha => ha, hsum.symm, rfl, rfl⟩
      · rintro u us _ S1 ⟨rest, acc, x4, e, hr, ha, rfl, hS⟩
        subst S1
        cases rest with
        | nil => cases e
        | cons a rest =>
        cases e
        rw [List.map_cons, List.sum_cons] at ha
        have hk := hr a List.mem_cons_self
        have hkd := kid_deep hk
        refine ⟨_, rfl, ?_⟩
        walk_at "wp"
        rw [show (d : Int) + 1 = ((d + 1 : Nat) : Int) by omega]
        refine ⟨rfl, (parts_in m a (d + 1) (by omega) (by omega) (by omega) (kid_on hw hk)).mono ?_⟩
        rintro _ S1 ⟨rfl, hS⟩
        subst S1
        walk_at "wp"
        refine w_if ?_
        walk_at "wp"
        refine y_gtI (j := 400) ?_
        walk_at "wp"
        refine ite_b (fun z => absurd (of_decide_eq_true z) (by omega)) (fun _ => ?_)
        walk_at "wp"
        exact ⟨rest, acc + a.parts, _, rfl, fun b hb => hr b (List.mem_cons_of_mem _ hb), by omega, by rw [show ((acc + a.parts : Nat) : Int) = (acc : Int) + (a.parts : Int) by omega]; rfl, rfl⟩
      · rintro d' S1 ⟨rest, acc, x4, e, hr, ha, rfl, hS⟩
        subst S1
        cases rest with
        | cons a rest => cases e
        | nil =>
        walk_at "wp"
        refine ⟨?_, rfl⟩
        rw [← ha]
        rfl
theorem is_saying {m : Nat} {x : Say} {S : Sto} (hm : x.deep + 1 ≤ m) (hd : x.deep ≤ 25) (hp : x.parts ≤ 400) (hw : x.On GW) : Y (call (m + 1) i_is_saying [x.u] S) fun u S' => u = .bl true ∧ S' = S := by
  refine y_run ?_
  show WS (b_is_saying (call m) [some x.u] S) _
  unfold b_is_saying
  walk_at "wp"
  refine ⟨rfl, (parts_in m x 1 hm (by omega) hp hw).mono ?_⟩
  rintro _ S1 ⟨rfl, hS⟩
  subst S1
  walk_at "wp"
  refine y_leI (j := 400) ?_
  refine ⟨?_, rfl⟩
  congr 1
  exact decide_eq_true (by omega)
def brT (b : Bool) (ts : List Str) : List Str := if b then "(" :: (ts ++ ([")"] : List Str)) else ts
def tk : Say → List Str
  | .yes => ["yes"]
  | .no => ["no"]
  | .name w => [w]
  | .neg a => "not" :: brT (decide (rk a < 5)) (tk a)
  | .bin o a b => brT (lb o a) (tk a) ++ sg o :: brT (rb o b) (tk b)
def isLet (c : Nat) : Bool := decide (97 ≤ c) && decide (c ≤ 122)
def sepC (c : Nat) : List Str := if c = 32 then [] else [⟨#[c]⟩]
def flP (F : List Str) (w : Str) (c : Nat) : List Str := F ++ [w, ⟨#[c]⟩].filter fun z => !decide (z ∈ (["", " "] : List Str))
def stepC (st : List Str × Str) (c : Nat) : List Str × Str := if isLet c then (st.1, st.2 ++ ⟨#[c]⟩) else (flP st.1 st.2 c, "")
def runC (l : List Nat) (st : List Str × Str) : List Str × Str := l.foldl stepC st
theorem runC_app (l m : List Nat) (st : List Str × Str) : runC (l ++ m) st = runC m (runC l st) := List.foldl_append
theorem let_c {c : Nat} (h : isLet c = true) : 97 ≤ c ∧ c ≤ 122 := by
  unfold isLet at h
  simpa using h
theorem let_of {c : Nat} (h : 97 ≤ c ∧ c ≤ 122) : isLet c = true := by
  unfold isLet
  simpa using h
theorem run_word : ∀ (l : List Nat) (F : List Str) (w : Str), (∀ c ∈ l, 97 ≤ c ∧ c ≤ 122) → runC l (F, w) = (F, w ++ ⟨l.toArray⟩)
  | [], F, w, _ => by
    show (F, w) = _
    rw [show w ++ (⟨([] : List Nat).toArray⟩ : Str) = w from TL.ext_tl (by rw [TL.tl_append]; exact List.append_nil _)]
  | c :: l, F, w, h => by
    show runC l (stepC (F, w) c) = _
    unfold stepC
    rw [if_pos (let_of (h c List.mem_cons_self)), run_word l F _ fun d hd => h d (List.mem_cons_of_mem _ hd)]
    rw [str_assoc]
    rw [show (⟨#[c]⟩ : Str) ++ (⟨l.toArray⟩ : Str) = ⟨(c :: l).toArray⟩ from TL.ext_tl (by rw [TL.tl_append]; rfl)]
def sep3 (c : Nat) : Prop := c = 32 ∨ c = 40 ∨ c = 41
theorem sep_no {c : Nat} (h : sep3 c) : isLet c = false := by rcases h with rfl | rfl | rfl <;> rfl
theorem fl_empty {F : List Str} {c : Nat} (h : sep3 c) : flP F "" c = F ++ sepC c := by
  unfold flP sepC
  rcases h with rfl | rfl | rfl <;> (congr 1)
theorem fl_word {F : List Str} {w : Str} {c : Nat} (hw : Low w) (h1 : 1 ≤ w.length) (h : sep3 c) : flP F w c = F ++ w :: sepC c := by
  have n1 : w ≠ "" := fun e => by rw [e] at h1; exact absurd h1 (by decide)
  have n2 : w ≠ " " := fun e => by
    have := hw 32 (by rw [e]; exact List.mem_singleton.mpr rfl)
    omega
  unfold flP sepC
  rw [List.filter_cons_of_pos (by simp [n1, n2])]
  rcases h with rfl | rfl | rfl <;> (congr 1)
def Good (l : List Nat) (ts : List Str) : Prop := ∀ (F : List Str) (c : Nat), sep3 c → stepC (runC l (F, "")) c = (F ++ ts ++ sepC c, ("" : Str))
theorem good_word {w : Str} (hw : Low w) (h1 : 1 ≤ w.length) : Good (TL.tl w) [w] := fun F c h => by
  rw [run_word _ F "" hw]
  unfold stepC
  rw [if_neg (by rw [sep_no h]; exact Bool.false_ne_true)]
  have e : ("" : Str) ++ (⟨(TL.tl w).toArray⟩ : Str) = w := TL.ext_tl (by rw [TL.tl_append]; rfl)
  show (flP F (("" : Str) ++ (⟨(TL.tl w).toArray⟩ : Str)) c, ("" : Str)) = _
  rw [e, fl_word hw h1 h, List.append_assoc]
  rfl
theorem good_br {l : List Nat} {ts : List Str} (h : Good l ts) : Good (40 :: (l ++ [41])) ("(" :: (ts ++ ([")"] : List Str))) := fun F c hc => by
  show stepC (runC (l ++ [41]) (stepC (F, ("" : Str)) 40)) c = _
  have e1 : stepC (F, ("" : Str)) 40 = (F ++ (["("] : List Str), ("" : Str)) := by
    show (flP F "" 40, ("" : Str)) = _
    rw [fl_empty (.inr (.inl rfl))]
    rfl
  rw [e1, runC_app]
  show stepC (stepC (runC l (F ++ (["("] : List Str), ("" : Str))) 41) c = _
  rw [h (F ++ (["("] : List Str)) 41 (.inr (.inr rfl))]
  unfold stepC
  rw [if_neg (by rw [sep_no hc]; exact Bool.false_ne_true)]
  show (flP (F ++ (["("] : List Str) ++ ts ++ sepC 41) "" c, ("" : Str)) = _
  rw [fl_empty hc]
  congr 1
  simp only [List.append_assoc, List.cons_append, List.nil_append]
  rfl
theorem good_two {l m : List Nat} {ts us : List Str} (h1 : Good l ts) (h2 : Good m us) : Good (l ++ 32 :: m) (ts ++ us) := fun F c hc => by
  rw [runC_app]
  show stepC (runC m (stepC (runC l (F, "")) 32)) c = _
  rw [h1 F 32 (.inl rfl), show F ++ ts ++ sepC 32 = F ++ ts from List.append_nil _, h2 _ c hc, List.append_assoc F ts us]
theorem good_inb {b : Bool} {z : Str} {ts : List Str} (h : Good (TL.tl z) ts) : Good (TL.tl (inb b z)) (brT b ts) := by
  unfold inb brT
  cases b with
  | false => exact h
  | true =>
    rw [if_pos rfl, if_pos rfl, TL.tl_append, TL.tl_append]
    exact good_br h
theorem sg_low (o : Op) : Low (sg o) ∧ 1 ≤ (sg o).length := by
  cases o <;> exact ⟨fun c hc => (by revert c; decide +kernel), by decide⟩
theorem good_say : ∀ {x : Say}, x.On WordL → Good (TL.tl (shw x)) (tk x)
  | .yes, _ => good_word (w := "yes") (fun c hc => by revert c; decide +kernel) (by decide)
  | .no, _ => good_word (w := "no") (fun c hc => by revert c; decide +kernel) (by decide)
  | .name w, h => good_word h.1 h.2.1
  | .neg a, h => by
    have h1 := good_inb (b := decide (rk a < 5)) (good_say (x := a) h)
    have h2 := good_word (w := "not") (fun c hc => by revert c; decide +kernel) (by decide)
    have := good_two h2 h1
    show Good (TL.tl ("not " ++ inb (decide (rk a < 5)) (shw a))) _
    rw [TL.tl_append]
    exact this
  | .bin o a b, h => by
    have h1 := good_inb (b := lb o a) (good_say h.1)
    have h2 := good_inb (b := rb o b) (good_say h.2)
    have h3 := good_word (sg_low o).1 (sg_low o).2
    have := good_two h1 (good_two h3 h2)
    rw [shw_mid, TL.tl_append, TL.tl_append, TL.tl_append, TL.tl_append]
    rw [List.append_assoc, List.append_assoc, List.append_assoc]
    exact this
theorem run_say {x : Say} (h : x.On WordL) : runC (TL.tl (shw x) ++ [32]) ([], "") = (tk x, ("" : Str)) := by
  rw [runC_app]
  have := good_say h [] 32 (.inl rfl)
  rw [List.nil_append, show tk x ++ sepC 32 = tk x from List.append_nil _] at this
  exact this
def SgC (c : Nat) : Prop := isLet c = true ∨ sep3 c
theorem sgc_inb {b : Bool} {z : Str} (h : ∀ c ∈ TL.tl z, SgC c) : ∀ c ∈ TL.tl (inb b z), SgC c := by
  unfold inb
  cases b with
  | false => exact h
  | true =>
    rw [if_pos rfl, TL.tl_append, TL.tl_append]
    intro c hc
    rcases List.mem_append.mp hc with hc | hc
    · rcases List.mem_append.mp hc with hc | hc
      · have : c = 40 := List.mem_singleton.mp hc
        exact .inr (.inr (.inl this))
      · exact h c hc
    · have : c = 41 := List.mem_singleton.mp hc
      exact .inr (.inr (.inr this))
theorem sgc_low {w : Str} (h : Low w) : ∀ c ∈ TL.tl w, SgC c := fun c hc => .inl (let_of (h c hc))
theorem sgc_say : ∀ {x : Say}, x.On WordL → ∀ c ∈ TL.tl (shw x), SgC c
  | .yes, _ => sgc_low (w := "yes") (fun c hc => by revert c; decide +kernel)
  | .no, _ => sgc_low (w := "no") (fun c hc => by revert c; decide +kernel)
  | .name w, h => sgc_low h.1
  | .neg a, h => by
    have h1 := sgc_inb (b := decide (rk a < 5)) (sgc_say (x := a) h)
    show ∀ c ∈ TL.tl ("not " ++ inb (decide (rk a < 5)) (shw a)), SgC c
    rw [TL.tl_append]
    intro c hc
    rcases List.mem_append.mp hc with hc | hc
    · have : c ∈ [110, 111, 116, 32] := hc
      simp only [List.mem_cons, List.mem_nil_iff, or_false] at this
      rcases this with rfl | rfl | rfl | rfl
      · exact .inl rfl
      · exact .inl rfl
      · exact .inl rfl
      · exact .inr (.inl rfl)
    · exact h1 c hc
  | .bin o a b, h => by
    have h1 := sgc_inb (b := lb o a) (sgc_say h.1)
    have h2 := sgc_inb (b := rb o b) (sgc_say h.2)
    have h3 := sgc_low (sg_low o).1
    have h4 : ∀ c ∈ TL.tl (" " : Str), SgC c := fun c hc => .inr (.inl (List.mem_singleton.mp hc))
    show ∀ c ∈ TL.tl (inb (lb o a) (shw a) ++ " " ++ sg o ++ " " ++ inb (rb o b) (shw b)), SgC c
    rw [TL.tl_append, TL.tl_append, TL.tl_append, TL.tl_append]
    intro c hc
    rcases List.mem_append.mp hc with hc | hc
    · rcases List.mem_append.mp hc with hc | hc
      · rcases List.mem_append.mp hc with hc | hc
        · rcases List.mem_append.mp hc with hc | hc
          · exact h1 c hc
          · exact h4 c hc
        · exact h3 c hc
      · exact h4 c hc
    · exact h2 c hc
theorem let_sep : ∀ c, sep3 c → inStr ⟨#[c]⟩ "abcdefghijklmnopqrstuvwxyz" = false ∧ inStr ⟨#[c]⟩ " ()" = true := by
  rintro c (rfl | rfl | rfl) <;> exact ⟨by decide +kernel, by decide +kernel⟩
theorem pieces_ofT {k : Nat} {t : Str} {ts : List Str} {S : Sto} (hl : t.length ≤ 200000) (hch : ∀ c ∈ TL.tl t, SgC c) (hrun : runC (TL.tl t ++ [32]) ([], "") = (ts, ("" : Str))) : Y (call (k + 1) i_pieces_of [.str t] S) fun u S' => u = .lst (ts.map .str) ∧ Fr [] S S' := by
  refine y_run ?_
  show WS (b_pieces_of (call k) [some (.str t), none, none, none, none] S) _
  unfold b_pieces_of
  refine w_seq (w_set (y_locG ?_))
  walk_at "wp"
  intro f S1 ef h1 l1 f1
  refine w_seq ?_
  walk_at "wp"
  refine y_addS (by rw [sizeL]; show _ + 1 ≤ _; omega) ?_
  refine ⟨_, rfl, ?_⟩
  have e0 : ((t ++ (" " : Str)).cps.toList.map fun c => U.str ⟨#[c]⟩) = (TL.tl t ++ [32]).map fun c => U.str ⟨#[c]⟩ := by
    show (TL.tl (t ++ (" " : Str))).map _ = _
    rw [TL.tl_append]
    rfl
  have hlen : (TL.tl t ++ [32]).length ≤ 200001 := by
    rw [List.length_append]
    show (TL.tl t).length + 1 ≤ _
    have : (TL.tl t).length = t.length := Array.length_toList
    omega
  rw [e0]
  refine w_loop (fun us d S2 => ∃ (l : List Nat) (F : List Str) (w : Str) (y z : Option U), us = l.map (fun c => U.str ⟨#[c]⟩) ∧ (∀ c ∈ l, SgC c) ∧ runC l (F, w) = (ts, ("" : Str)) ∧ F.length + w.length + 2 * l.length ≤ 1000000 ∧ d = [some (.str t), some (.loc f), some (.str w), y, z] ∧ S2[f]? = some (.lst (F.map .str)) ∧ Fr [] S S2) ?_ ?_ _ _ _ ?_
  · rintro u us _ S2 ⟨l, F, w, y, z, el, hs, hr, hn, rfl, h2, f2⟩
    cases l with
    | nil => cases el
    | cons c l =>
      rw [List.map_cons] at el
      obtain ⟨rfl, rfl⟩ := List.cons.inj el
      rw [List.length_cons] at hn
      refine ⟨_, rfl, ?_⟩
      have hc := hs c List.mem_cons_self
      have hs' := fun d hd => hs d (List.mem_cons_of_mem _ hd)
      refine w_if ?_
      unfold c_LETTERS
      walk_at "wp"
      refine y_inStr ?_
      walk_at "wp"
      rcases hc with hc | hc
      · have hv := let_c hc
        rw [low_let c (by omega) hv.1]
        refine ite_b (fun _ => ?_) (fun q => by cases q)
        walk_at "wp"
        refine y_addS (by rw [sizeL]; show _ + 1 ≤ _; omega) ?_
        refine ⟨l, F, w ++ ⟨#[c]⟩, _, _, rfl, hs', ?_, ?_, rfl, h2, f2⟩
        · rw [← hr]
          show _ = runC l (stepC (F, w) c)
          unfold stepC
          rw [if_pos hc]
        · rw [len_app]
          show _ + (_ + 1) + _ ≤ _
          omega
      · obtain ⟨e1, e2⟩ := let_sep c hc
        rw [e1]
        refine ite_b (fun q => by cases q) (fun _ => ?_)
        refine w_if ?_
        walk_at "wp"
        refine y_inStr ?_
        walk_at "wp"
        rw [e2]
        refine ite_b (fun _ => ?_) (fun q => by cases q)
        walk_at "wp"
        refine ⟨ty_list h2, ?_⟩
        walk_at "wp"
        refine ⟨_, rfl, ?_⟩
        refine y_compFX (fun z => .str z) (fun z => !decide (z ∈ (["", " "] : List Str))) (fun z => .str z) [w, ⟨#[c]⟩] [] (fun a _ => ⟨_, rfl, ?_, fun _ => ?_⟩) (by rw [sizeL]; show 0 + 2 ≤ _; omega) ?_
        · walk_at "wp"
          refine y_ninT ["", " "] rfl ?_
          walk_at "wp"
          exact ⟨rfl, rfl⟩
        · walk_at "wp"
          exact ⟨rfl, rfl⟩
        rw [List.nil_append]
        walk_at "wp"
        have hfl : ([w, ⟨#[c]⟩].filter fun z => !decide (z ∈ (["", " "] : List Str))).length ≤ 2 := List.length_filter_le _ _
        refine y_extG h2 rfl (by rw [List.length_map, List.length_map, sizeL]; omega) fun S3 h3 l3 f3 => ?_
        walk_at "wp"
        refine ⟨l, flP F w c, "", _, _, rfl, hs', ?_, ?_, rfl, ?_, f2.thenNew f3 (by omega)⟩
        · rw [← hr]
          show _ = runC l (stepC (F, w) c)
          unfold stepC
          rw [if_neg (by rw [sep_no hc]; exact Bool.false_ne_true)]
        · unfold flP
          rw [List.length_append]
          show _ + 0 + _ ≤ _
          omega
        · rw [h3]
          unfold flP
          rw [List.map_append]
  · rintro _ S2 ⟨l, F, w, y, z, el, hs, hr, hn, rfl, h2, f2⟩
    cases l with
    | cons c l => cases el
    | nil =>
      cases hr
      refine w_ret (y_iceG ?_)
      walk_at "wp"
      refine ⟨f, _, rfl, h2, fun S3 l3 f3 => ?_⟩
      exact ⟨rfl, f2.thenNew f3 (by omega)⟩
  · refine ⟨_, [], "", none, none, rfl, ?_, hrun, ?_, rfl, h1, f1⟩
    · intro c hc
      rcases List.mem_append.mp hc with hc | hc
      · exact hch c hc
      · exact .inr (.inl (List.mem_singleton.mp hc))
    · show 0 + 0 + _ ≤ _
      omega
theorem w_while1 {t : FT} {g : FS} {n : Nat} {d : En} {S : Sto} {D : EU} (h : Y (t d S) fun b S1 => if b = true then WS (g d S1) { D with nx := fun d2 S2 => WS (whileF t g n d2 S2) D, ct := fun d2 S2 => WS (whileF t g n d2 S2) D, bk := D.nx } else D.nx d S1) : WS (whileF t g (n + 1) d S) D := by
  unfold whileF
  refine ws_toS (h.mono fun b S1 h1 => ?_)
  cases b with
  | false => exact ⟨h1⟩
  | true =>
    show WS (match g d S1 with
      | .ok (.nx d2) S2 => whileF t g n d2 S2
      | .ok (.ct d2) S2 => whileF t g n d2 S2
      | .ok (.bk d2) S2 => .ok (.nx d2) S2
      | r => r) D
    have h1 : WS (g d S1) { D with nx := fun d2 S2 => WS (whileF t g n d2 S2) D, ct := fun d2 S2 => WS (whileF t g n d2 S2) D, bk := D.nx } := h1
    cases hg : g d S1 with
    | ok fl S2 =>
      rw [hg] at h1
      cases fl with
      | nx d2 => exact h1.out
      | ct d2 => exact h1.out
      | bk d2 => exact ⟨h1.out⟩
      | rt u => exact ⟨h1.out⟩
      | ex x d2 => exact ⟨h1.out⟩
    | exc x S => rw [hg] at h1; exact h1.out.elim
    | bad => rw [hg] at h1; exact h1.out.elim
def rdO (ts : List Str) (p o e : Nat) : Ob := .ins "Reader" [("pieces", .lst (ts.map .str)), ("at", .int (p : Int)), ("opened", .int (o : Int)), ("denied", .int (e : Int))]
def rdS (S : Sto) (n : Nat) (ts : List Str) (p o e : Nat) : Sto := S.set n (rdO ts p o e)
def nxt : List Str → Str
  | [] => ""
  | t :: _ => t
section
variable {S : Sto} {n : Nat} {ts : List Str} (hn : n < S.length)
include hn
theorem rd_at (p o e : Nat) : (rdS S n ts p o e)[n]? = some (rdO ts p o e) := List.getElem?_set_self hn
omit hn in
theorem rd_set (p o e p' o' e' : Nat) : (rdS S n ts p o e).set n (rdO ts p' o' e') = rdS S n ts p' o' e' := List.set_set ..
theorem rd_now {k p o e : Nat} : Y (call (k + 1) i_Reader_now [.loc n] (rdS S n ts p o e)) fun u S' => u = .str (nxt (ts.drop p)) ∧ S' = rdS S n ts p o e := by
  have ha := rd_at (ts := ts) hn p o e
  refine y_run ?_
  show WS (b_Reader_now (call k) [some (.loc n)] (rdS S n ts p o e)) _
  unfold b_Reader_now
  refine w_ret (y_if ?_)
  walk_at "wp"
  refine y_get ?_
  walk_at "wp"
  refine ⟨n, _, .int (p : Int), rfl, ha, rfl, ?_⟩
  walk_at "wp"
  refine y_get ?_
  walk_at "wp"
  refine ⟨n, _, .lst (ts.map .str), rfl, ha, rfl, ?_⟩
  walk_at "wp"
  refine y_lenL ?_
  walk_at "wp"
  rw [List.length_map]
  refine ite_b (fun h => ?_) (fun h => ?_)
  · have h := of_decide_eq_true h
    have hp : p < ts.length := by omega
    walk_at "wp"
    refine y_get ?_
    walk_at "wp"
    refine ⟨n, _, .lst (ts.map .str), rfl, ha, rfl, ?_⟩
    walk_at "wp"
    refine y_get ?_
    walk_at "wp"
    refine ⟨n, _, .int (p : Int), rfl, ha, rfl, ?_⟩
    walk_at "wp"
    refine y_ixLst (u := .str ts[p]) (by rw [List.getElem?_map, List.getElem?_eq_getElem hp]; rfl) ?_
    rw [List.drop_eq_getElem_cons hp]
    exact ⟨rfl, rfl⟩
  · have h := of_decide_eq_false h
    walk_at "wp"
    rw [List.drop_eq_nil_of_le (by omega)]
    exact ⟨rfl, rfl⟩
theorem rd_taken {k p o e : Nat} : Y (call (k + 2) i_Reader_taken [.loc n] (rdS S n ts p o e)) fun u S' => u = .str (nxt (ts.drop p)) ∧ S' = rdS S n ts (p + 1) o e := by
  have ha := rd_at (ts := ts) hn p o e
  refine y_run ?_
  show WS (b_Reader_taken (call (k + 1)) [some (.loc n), none] (rdS S n ts p o e)) _
  unfold b_Reader_taken
  refine w_seq (w_set (y_meth ?_))
  walk_at "wp"
  refine ⟨ins_ok ha rfl, ?_⟩
  walk_at "wp"
  refine ⟨rfl, (rd_now hn).mono ?_⟩
  rintro _ _ ⟨rfl, rfl⟩
  refine w_seq (w_putF ?_)
  walk_at "wp"
  refine y_get ?_
  walk_at "wp"
  refine ⟨n, _, .int (p : Int), rfl, ha, rfl, ?_⟩
  walk_at "wp"
  refine ⟨n, _, rfl, ha, by show 4 < 1000; decide, ?_⟩
  have : (rdS S n ts p o e).set n (.ins "Reader" (setF "at" (.int ((p : Int) + 1)) [("pieces", .lst (ts.map .str)), ("at", .int (p : Int)), ("opened", .int (o : Int)), ("denied", .int (e : Int))])) = rdS S n ts (p + 1) o e := rd_set p o e (p + 1) o e
  rw [this]
  walk_at "wp"
  exact ⟨rfl, rfl⟩
end
def Nx (w : Str) (k : Nat) : Prop := ∃ v : Str, (lookT t_WORDS w).getD (.str "") = .str v ∧ (lookT t_RANKS v).getD (.int 0) = .int (k : Int)
theorem nx_nil : Nx "" 0 := ⟨"", rfl, rfl⟩
theorem nx_cl : Nx ")" 0 := ⟨"", rfl, rfl⟩
theorem nx_sg (o : Op) : Nx (sg o) (rkO o) := ⟨o.s, by cases o <;> rfl, by cases o <;> rfl⟩
theorem y_nx {S : Sto} {n : Nat} {ts : List Str} (hn : n < S.length) {m p o e k : Nat} {d : En} (hd : d[0]? = some (some (.loc n))) (hm : 1 ≤ m) (h : Nx (nxt (ts.drop p)) k) : Y (fWget2 t_RANKS (fWget2 t_WORDS (fMeth "Reader" "now" 1 (call m i_Reader_now) (fVar 0) aNil) (fC (.str ""))) (fC (.int 0)) d (rdS S n ts p o e)) fun u S' => u = .int (k : Int) ∧ S' = rdS S n ts p o e := by
  obtain ⟨k', rfl⟩ : ∃ k', m = k' + 1 := ⟨m - 1, by omega⟩
  obtain ⟨v, h1, h2⟩ := h
  refine y_wget2 (y_wget2 (y_meth (y_var hd ⟨ins_ok (rd_at hn p o e) rfl, y_nil ⟨rfl, (rd_now hn).mono ?_⟩⟩)))
  rintro _ _ ⟨rfl, rfl⟩
  refine y_C ⟨_, rfl, ?_⟩
  rw [h1]
  refine y_C ⟨v, rfl, ?_⟩
  rw [h2]
  exact ⟨rfl, rfl⟩
def RdA (S : Sto) (n : Nat) (ts : List Str) (o e m r : Nat) (toks : List Str) (u : U) : Prop :=
  ∀ p post k, ts.drop p = toks ++ post → Nx (nxt post) k → k < r → Y (call m i_Reader_of_rank [.loc n, .int (r : Int)] (rdS S n ts p o e)) fun v S' => v = u ∧ S' = rdS S n ts (p + toks.length) o e
def RdG (S : Sto) (n : Nat) (ts : List Str) (o e m : Nat) (toks : List Str) (u : U) : Prop :=
  ∀ p post, ts.drop p = toks ++ post → Y (call m i_Reader_single [.loc n] (rdS S n ts p o e)) fun v S' => v = u ∧ S' = rdS S n ts (p + toks.length) o e
theorem drop_more {ts toks post : List Str} {p : Nat} (h : ts.drop p = toks ++ post) : ts.drop (p + toks.length) = post := by
  rw [← List.drop_drop, h, List.drop_left]
section
variable {S : Sto} {n : Nat} {ts : List Str} {o e : Nat} (hn : n < S.length)
include hn
theorem rd_five {m : Nat} {toks : List Str} {u : U} (h : RdG S n ts o e m toks u) : RdA S n ts o e (m + 1) 5 toks u := fun p post k hp _ _ => by
  refine y_run ?_
  show WS (b_Reader_of_rank (call m) [some (.loc n), some (.int 5), none, none] (rdS S n ts p o e)) _
  unfold b_Reader_of_rank
  refine w_seq (w_if ?_)
  walk_at "wp"
  refine ite_b (fun _ => ?_) (fun c => absurd c (by decide))
  refine w_ret (y_meth ?_)
  walk_at "wp"
  refine ⟨ins_ok (rd_at hn p o e) rfl, ?_⟩
  walk_at "wp"
  exact ⟨rfl, h p post hp⟩
theorem rd_end {m r k p N : Nat} {w z : Option U} {fc : FS} {D : EU} (hm : 1 ≤ m) (hk : Nx (nxt (ts.drop p)) k) (hr : k ≠ r) (h : D.nx [some (.loc n), some (.int (r : Int)), w, z] (rdS S n ts p o e)) :
    WS (whileF (fB (f2 eqU (fWget2 t_RANKS (fWget2 t_WORDS (fMeth "Reader" "now" 1 (call m i_Reader_now) (fVar 0) aNil) (fC (.str ""))) (fC (.int 0))) (fVar 1))) fc (N + 1) [some (.loc n), some (.int (r : Int)), w, z] (rdS S n ts p o e)) D := by
  refine w_while1 ?_
  refine y_B (y_f2 ((y_nx hn rfl hm hk).mono ?_))
  rintro _ _ ⟨rfl, rfl⟩
  refine y_var rfl (y_eqI ?_)
  rw [decide_eq_false (show ¬ (k : Int) = (r : Int) by omega)]
  refine y_tbl ?_
  rw [if_neg Bool.false_ne_true]
  exact h
theorem rd_down {m r : Nat} {toks : List Str} {u : U} (hr : 1 ≤ r) (hr2 : r ≤ 4) (hm : 1 ≤ m) (h : RdA S n ts o e m (r + 1) toks u) : RdA S n ts o e (m + 1) r toks u := fun p post k hp hx hk => by
  refine y_run ?_
  show WS (b_Reader_of_rank (call m) [some (.loc n), some (.int (r : Int)), none, none] (rdS S n ts p o e)) _
  unfold b_Reader_of_rank
  refine w_seq (w_if ?_)
  walk_at "wp"
  refine ite_b (fun c => absurd (of_decide_eq_true c) (by omega)) (fun _ => ?_)
  refine w_nop ?_
  refine w_seq (w_set (y_meth ?_))
  walk_at "wp"
  refine ⟨ins_ok (rd_at hn p o e) rfl, ?_⟩
  walk_at "wp"
  refine ⟨rfl, (h p post k hp hx (by omega)).mono ?_⟩
  rintro _ _ ⟨rfl, rfl⟩
  refine w_seq (rd_end (N := 999999) hn hm (by rw [drop_more hp]; exact hx) (by omega) ?_)
  walk_at "wp"
  exact ⟨rfl, rfl⟩
theorem rd_atom {m : Nat} {w : Str} (h : w = "yes" ∨ w = "no") : RdG S n ts o e (m + 3) [w] (.tup [.str w]) := fun p post hp => by
  refine y_run ?_
  show WS (b_Reader_single (call (m + 2)) [some (.loc n), none] (rdS S n ts p o e)) _
  unfold b_Reader_single
  refine w_seq (w_set (y_meth ?_))
  walk_at "wp"
  refine ⟨ins_ok (rd_at hn p o e) rfl, ?_⟩
  walk_at "wp"
  refine ⟨rfl, (rd_taken hn).mono ?_⟩
  rintro _ _ ⟨rfl, rfl⟩
  rw [hp, show nxt ([w] ++ post) = w from rfl]
  have h1 : w ≠ "not" := by rcases h with rfl | rfl <;> decide
  have h2 : w ≠ "(" := by rcases h with rfl | rfl <;> decide
  have h3 : w ∈ (["yes", "no"] : List Str) := by rcases h with rfl | rfl <;> decide
  refine w_seq (w_if ?_)
  walk_at "wp"
  refine ite_b (fun c => absurd (of_decide_eq_true c) h1) (fun _ => ?_)
  refine w_nop ?_
  refine w_seq (w_if ?_)
  walk_at "wp"
  refine ite_b (fun c => absurd (of_decide_eq_true c) h2) (fun _ => ?_)
  refine w_nop ?_
  refine w_seq (w_if ?_)
  walk_at "wp"
  refine y_inT ["yes", "no"] rfl ?_
  walk_at "wp"
  refine ite_b (fun _ => ?_) (fun c => absurd h3 (of_decide_eq_false c))
  walk_at "wp"
  exact ⟨rfl, rfl⟩
theorem rd_name {m : Nat} {w : Str} (h : GW w) : RdG S n ts o e (m + 3) [w] (.tup [.str "name", .str w]) := fun p post hp => by
  have h1 : w ≠ "not" := fun q => h.2 (by rw [q]; decide)
  have h2 : w ≠ "(" := fun q => by
    have := h.1.1 40 (by rw [q]; exact List.mem_singleton.mpr rfl)
    omega
  have h3 : w ∉ (["yes", "no"] : List Str) := fun q => h.2 (by
    simp only [List.mem_cons, List.mem_nil_iff, or_false] at q
    rcases q with rfl | rfl <;> decide)
  refine y_run ?_
  show WS (b_Reader_single (call (m + 2)) [some (.loc n), none] (rdS S n ts p o e)) _
  unfold b_Reader_single
  refine w_seq (w_set (y_meth ?_))
  walk_at "wp"
  refine ⟨ins_ok (rd_at hn p o e) rfl, ?_⟩
  walk_at "wp"
  refine ⟨rfl, (rd_taken hn).mono ?_⟩
  rintro _ _ ⟨rfl, rfl⟩
  rw [hp, show nxt ([w] ++ post) = w from rfl]
  refine w_seq (w_if ?_)
  walk_at "wp"
  refine ite_b (fun c => absurd (of_decide_eq_true c) h1) (fun _ => ?_)
  refine w_nop ?_
  refine w_seq (w_if ?_)
  walk_at "wp"
  refine ite_b (fun c => absurd (of_decide_eq_true c) h2) (fun _ => ?_)
  refine w_nop ?_
  refine w_seq (w_if ?_)
  walk_at "wp"
  refine y_inT ["yes", "no"] rfl ?_
  walk_at "wp"
  refine ite_b (fun c => absurd (of_decide_eq_true c) h3) (fun _ => ?_)
  refine w_nop ?_
  refine w_seq (w_if ?_)
  walk_at "wp"
  refine ⟨rfl, (is_word (k := m + 1) (gw_pl h)).mono ?_⟩
  rintro _ _ ⟨rfl, rfl⟩
  rw [gw_word h]
  walk_at "wp"
  refine ite_b (fun c => by cases c) (fun _ => ?_)
  walk_at "wp"
  exact ⟨rfl, rfl⟩
end
section
variable {S : Sto} {n : Nat} {ts : List Str} {o e : Nat} (hn : n < S.length)
include hn
theorem rd_neg {m : Nat} {toks : List Str} {u : U} (he : e + 2 ≤ 25) (h : RdG S n ts o (e + 1) (m + 2) toks u) : RdG S n ts o e (m + 4) ("not" :: toks) (.tup [.str "not", u]) := fun p post hp => by
  refine y_run ?_
  show WS (b_Reader_single (call (m + 3)) [some (.loc n), none] (rdS S n ts p o e)) _
  unfold b_Reader_single
  refine w_seq (w_set (y_meth ?_))
  walk_at "wp"
  refine ⟨ins_ok (rd_at hn p o e) rfl, ?_⟩
  walk_at "wp"
  refine ⟨rfl, (rd_taken hn).mono ?_⟩
  rintro _ _ ⟨rfl, rfl⟩
  have hp2 : ts.drop (p + 1) = toks ++ post := by rw [← List.drop_drop, hp]; rfl
  rw [hp, show nxt ((("not" : Str) :: toks) ++ post) = ("not" : Str) from rfl]
  refine w_seq (w_if ?_)
  walk_at "wp"
  refine ite_b (fun _ => ?_) (fun c => absurd c (by decide))
  refine w_ret (y_meth ?_)
  walk_at "wp"
  refine ⟨ins_ok (rd_at hn _ o e) rfl, ?_⟩
  walk_at "wp"
  refine ⟨rfl, y_run ?_⟩
  show WS (b_Reader_denial (call (m + 2)) [some (.loc n), none] (rdS S n ts (p + 1) o e)) _
  unfold b_Reader_denial c_DEEPEST
  have ha := rd_at (ts := ts) hn (p + 1) o e
  refine w_seq (w_putF ?_)
  walk_at "wp"
  refine y_get ?_
  walk_at "wp"
  refine ⟨n, _, .int (e : Int), rfl, ha, rfl, ?_⟩
  walk_at "wp"
  refine ⟨n, _, rfl, ha, by show 4 < 1000; decide, ?_⟩
  have e1 : (rdS S n ts (p + 1) o e).set n (.ins "Reader" (setF "denied" (.int ((e : Int) + 1)) [("pieces", .lst (ts.map .str)), ("at", .int ((p + 1 : Nat) : Int)), ("opened", .int (o : Int)), ("denied", .int (e : Int))])) = rdS S n ts (p + 1) o (e + 1) := rd_set (p + 1) o e (p + 1) o (e + 1)
  rw [e1]
  refine w_seq (w_if ?_)
  walk_at "wp"
  refine y_get ?_
  walk_at "wp"
  refine ⟨n, _, .int ((e + 1 : Nat) : Int), rfl, rd_at hn _ _ _, rfl, ?_⟩
  refine y_C (y_geI ?_)
  walk_at "wp"
  refine ite_b (fun c => absurd (of_decide_eq_true c) (by omega)) (fun _ => ?_)
  refine w_nop ?_
  refine w_seq (w_set ?_)
  walk_at "wp"
  refine y_meth ?_
  walk_at "wp"
  refine ⟨ins_ok (rd_at hn _ o _) rfl, ?_⟩
  walk_at "wp"
  refine ⟨rfl, (h (p + 1) post hp2).mono ?_⟩
  rintro _ _ ⟨rfl, rfl⟩
  walk_at "wp"
  refine w_putF ?_
  walk_at "wp"
  refine y_get ?_
  walk_at "wp"
  refine ⟨n, _, .int ((e + 1 : Nat) : Int), rfl, rd_at hn _ _ _, rfl, ?_⟩
  walk_at "wp"
  refine ⟨n, _, rfl, rd_at hn _ _ _, by show 4 < 1000; decide, ?_⟩
  have e2 : (rdS S n ts (p + 1 + toks.length) o (e + 1)).set n (.ins "Reader" (setF "denied" (.int (((e + 1 : Nat) : Int) - 1)) [("pieces", .lst (ts.map .str)), ("at", .int ((p + 1 + toks.length : Nat) : Int)), ("opened", .int (o : Int)), ("denied", .int ((e + 1 : Nat) : Int))])) = rdS S n ts (p + (("not" : Str) :: toks).length) o e := by
    rw [show ((e + 1 : Nat) : Int) - 1 = (e : Int) by omega]
    show (rdS S n ts (p + 1 + toks.length) o (e + 1)).set n (rdO ts (p + 1 + toks.length) o e) = _
    rw [rd_set, List.length_cons, show p + 1 + toks.length = p + (toks.length + 1) by omega]
  rw [e2]
  walk_at "wp"
  exact ⟨rfl, rfl⟩
theorem rd_brk {m : Nat} {toks : List Str} {u : U} (ho : o + 1 ≤ 50) (h : RdA S n ts (o + 1) e (m + 2) 1 toks u) : RdG S n ts o e (m + 4) ("(" :: (toks ++ ([")"] : List Str))) u := fun p post hp => by
  refine y_run ?_
  show WS (b_Reader_single (call (m + 3)) [some (.loc n), none] (rdS S n ts p o e)) _
  unfold b_Reader_single
  refine w_seq (w_set (y_meth ?_))
  walk_at "wp"
  refine ⟨ins_ok (rd_at hn p o e) rfl, ?_⟩
  walk_at "wp"
  refine ⟨rfl, (rd_taken hn).mono ?_⟩
  rintro _ _ ⟨rfl, rfl⟩
  have hp2 : ts.drop (p + 1) = toks ++ ((")" : Str) :: post) := by
    rw [← List.drop_drop, hp]
    show toks ++ ([")"] : List Str) ++ post = _
    rw [List.append_assoc]
    rfl
  rw [hp, show nxt ((("(" : Str) :: (toks ++ ([")"] : List Str))) ++ post) = ("(" : Str) from rfl]
  refine w_seq (w_if ?_)
  walk_at "wp"
  refine ite_b (fun c => absurd c (by decide)) (fun _ => ?_)
  refine w_nop ?_
  refine w_seq (w_if ?_)
  walk_at "wp"
  refine ite_b (fun _ => ?_) (fun c => absurd c (by decide))
  refine w_ret (y_meth ?_)
  walk_at "wp"
  refine ⟨ins_ok (rd_at hn _ o e) rfl, ?_⟩
  walk_at "wp"
  refine ⟨rfl, y_run ?_⟩
  show WS (b_Reader_bracketed (call (m + 2)) [some (.loc n), none] (rdS S n ts (p + 1) o e)) _
  unfold b_Reader_bracketed c_MOST_OPEN
  have ha := rd_at (ts := ts) hn (p + 1) o e
  refine w_seq (w_putF ?_)
  walk_at "wp"
  refine y_get ?_
  walk_at "wp"
  refine ⟨n, _, .int (o : Int), rfl, ha, rfl, ?_⟩
  walk_at "wp"
  refine ⟨n, _, rfl, ha, by show 4 < 1000; decide, ?_⟩
  have e1 : (rdS S n ts (p + 1) o e).set n (.ins "Reader" (setF "opened" (.int ((o : Int) + 1)) [("pieces", .lst (ts.map .str)), ("at", .int ((p + 1 : Nat) : Int)), ("opened", .int (o : Int)), ("denied", .int (e : Int))])) = rdS S n ts (p + 1) (o + 1) e := rd_set (p + 1) o e (p + 1) (o + 1) e
  rw [e1]
  refine w_seq (w_if ?_)
  walk_at "wp"
  refine y_get ?_
  walk_at "wp"
  refine ⟨n, _, .int ((o + 1 : Nat) : Int), rfl, rd_at hn _ _ _, rfl, ?_⟩
  refine y_C (y_gtI ?_)
  walk_at "wp"
  refine ite_b (fun c => absurd (of_decide_eq_true c) (by omega)) (fun _ => ?_)
  refine w_nop ?_
  refine w_seq (w_set ?_)
  walk_at "wp"
  refine y_meth ?_
  walk_at "wp"
  refine ⟨ins_ok (rd_at hn _ _ e) rfl, ?_⟩
  walk_at "wp"
  refine ⟨rfl, (h (p + 1) (")" :: post) 0 hp2 nx_cl (by decide)).mono ?_⟩
  rintro _ _ ⟨rfl, rfl⟩
  refine w_seq (w_if ?_)
  walk_at "wp"
  refine y_meth ?_
  walk_at "wp"
  refine ⟨ins_ok (rd_at hn _ _ e) rfl, ?_⟩
  walk_at "wp"
  refine ⟨rfl, (rd_taken (k := m) hn).mono ?_⟩
  rintro _ _ ⟨rfl, rfl⟩
  rw [drop_more hp2, show nxt ((")" : Str) :: post) = (")" : Str) from rfl]
  walk_at "wp"
  refine ite_b (fun c => absurd c (by decide)) (fun _ => ?_)
  refine w_nop ?_
  refine w_seq (w_putF ?_)
  walk_at "wp"
  refine y_get ?_
  walk_at "wp"
  refine ⟨n, _, .int ((o + 1 : Nat) : Int), rfl, rd_at hn _ _ _, rfl, ?_⟩
  walk_at "wp"
  refine ⟨n, _, rfl, rd_at hn _ _ _, by show 4 < 1000; decide, ?_⟩
  have e2 : (rdS S n ts (p + 1 + toks.length + 1) (o + 1) e).set n (.ins "Reader" (setF "opened" (.int (((o + 1 : Nat) : Int) - 1)) [("pieces", .lst (ts.map .str)), ("at", .int ((p + 1 + toks.length + 1 : Nat) : Int)), ("opened", .int ((o + 1 : Nat) : Int)), ("denied", .int (e : Int))])) = rdS S n ts (p + (("(" : Str) :: (toks ++ ([")"] : List Str))).length) o e := by
    rw [show ((o + 1 : Nat) : Int) - 1 = (o : Int) by omega]
    show (rdS S n ts (p + 1 + toks.length + 1) (o + 1) e).set n (rdO ts (p + 1 + toks.length + 1) o e) = _
    rw [rd_set, List.length_cons, List.length_append, List.length_singleton, show p + 1 + toks.length + 1 = p + (toks.length + 1 + 1) by omega]
  rw [e2]
  walk_at "wp"
  exact ⟨rfl, rfl⟩
end
def brl (b : Bool) (n : Nat) : Nat := if b then n + 7 else n
def lev : Say → Nat
  | .neg a => 2 + brl (decide (rk a < 5)) (lev a)
  | .bin o a b => max (brl (lb o a) (lev a)) (brl (rb o b) (lev b))
  | _ => 8
theorem brl_ge (b : Bool) (n : Nat) : n ≤ brl b n := by unfold brl; split <;> omega
theorem rk_pos (x : Say) : 1 ≤ rk x := by
  cases x with
  | bin o a b => exact (rkO_pos o).1
  | neg a => show 1 ≤ 5; omega
  | name a => show 1 ≤ 6; omega
  | yes => show 1 ≤ 6; omega
  | no => show 1 ≤ 6; omega
theorem lev_ge : ∀ x, 8 ≤ lev x
  | .neg a => by have := lev_ge a; have := brl_ge (decide (rk a < 5)) (lev a); show 8 ≤ 2 + _; omega
  | .bin o a b => by have := lev_ge a; have := brl_ge (lb o a) (lev a); show 8 ≤ max _ _; omega
  | .yes => Nat.le_refl _
  | .no => Nat.le_refl _
  | .name _ => Nat.le_refl _
theorem lev_le : ∀ x, lev x ≤ 7 * x.deep + (if rk x < 5 then 1 else 8)
  | .yes => by decide
  | .no => by decide
  | .name _ => by show 8 ≤ 7 * 1 + 8; omega
  | .neg a => by
    have h := lev_le a
    show 2 + brl (decide (rk a < 5)) (lev a) ≤ 7 * (a.deep + 1) + 8
    unfold brl
    by_cases c : rk a < 5
    · rw [if_pos c] at h
      rw [if_pos (decide_eq_true c)]
      omega
    · rw [if_neg c] at h
      rw [if_neg (by rw [decide_eq_false c]; exact Bool.false_ne_true)]
      omega
  | .bin o a b => by
    have ha := lev_le a
    have hb := lev_le b
    have ho := rkO_pos o
    show max (brl (lb o a) (lev a)) (brl (rb o b) (lev b)) ≤ 7 * (max a.deep b.deep + 1) + (if rkO o < 5 then 1 else 8)
    rw [if_pos (show rkO o < 5 by omega)]
    have h1 : brl (lb o a) (lev a) ≤ 7 * (a.deep + 1) + 1 := by
      unfold brl
      by_cases c : lb o a = true
      · rw [if_pos c]
        have c2 : rk a < 5 := by
          unfold lb at c
          simp only [Bool.or_eq_true, Bool.and_eq_true, decide_eq_true_eq] at c
          omega
        rw [if_pos c2] at ha
        omega
      · rw [if_neg c]
        have : (if rk a < 5 then 1 else 8) ≤ 8 := by split <;> omega
        omega
    have h2 : brl (rb o b) (lev b) ≤ 7 * (b.deep + 1) + 1 := by
      unfold brl
      by_cases c : rb o b = true
      · rw [if_pos c]
        have c2 : rk b < 5 := by
          unfold rb at c
          simp only [decide_eq_true_eq] at c
          omega
        rw [if_pos c2] at hb
        omega
      · rw [if_neg c]
        have : (if rk b < 5 then 1 else 8) ≤ 8 := by split <;> omega
        omega
    omega
def whR (c : Nat → List U → Sto → R U) : Nat → FS := whileF (fB (f2 eqU (fWget2 t_RANKS (fWget2 t_WORDS (fMeth "Reader" "now" 1 (c i_Reader_now) (fVar 0) aNil) (fC (.str ""))) (fC (.int 0))) (fVar 1))) (fSeq (fSet 3 (fWix t_WORDS (fMeth "Reader" "taken" 1 (c i_Reader_taken) (fVar 0) aNil)))
    (fSeq (fSet 2 (fTup (aCons (fVar 3) (aCons (fVar 2) (aCons (fMeth "Reader" "of_rank" 2 (c i_Reader_of_rank) (fVar 0) (aCons (f2 addU (fVar 1) (fC (.int 1))) aNil)) aNil)))))
    (fIfS (fAnd (fB (f2 ltU (fVar 1) (fC (.int 3)))) (fB (f2 eqU (fWget2 t_RANKS (fWget2 t_WORDS (fMeth "Reader" "now" 1 (c i_Reader_now) (fVar 0) aNil) (fC (.str ""))) (fC (.int 0))) (fVar 1)))) (fExpr (fMeth "Reader" "refuse" 1 (c i_Reader_refuse) (fVar 0) aNil)) fNop)))
def setR (c : Nat → List U → Sto → R U) : FS := (fSet 2 (fMeth "Reader" "of_rank" 2 (c i_Reader_of_rank) (fVar 0) (aCons (f2 addU (fVar 1) (fC (.int 1))) aNil)))
section
variable {S : Sto} {n : Nat} {ts : List Str} (hn : n < S.length)
include hn
theorem rd_set1 {o e m r p k : Nat} {z w : Option U} {toks post : List Str} {u : U} {D : EU} (h : RdA S n ts o e m (r + 1) toks u) (hp : ts.drop p = toks ++ post) (hx : Nx (nxt post) k) (hk : k ≤ r)
    (hD : D.nx [some (.loc n), some (.int (r : Int)), some u, w] (rdS S n ts (p + toks.length) o e)) : WS (setR (call m) [some (.loc n), some (.int (r : Int)), z, w] (rdS S n ts p o e)) D := by
  unfold setR
  refine w_set (y_meth ?_)
  walk_at "wp"
  refine ⟨ins_ok (rd_at hn p o e) rfl, ?_⟩
  walk_at "wp"
  refine ⟨rfl, (h p post k hp hx (by omega)).mono ?_⟩
  rintro _ _ ⟨rfl, rfl⟩
  exact hD
theorem spine {o e m r X DX L : Nat} (hr : 1 ≤ r) (hr4 : r ≤ 4) (hm : 2 ≤ m)
    (ih : ∀ (y : Say) (b' : Bool), y.parts < X → y.On GW → y.deep + 1 ≤ DX → brl b' (lev y) ≤ L → (b' = false → r + 1 ≤ rk y) → RdA S n ts o e m (r + 1) (brT b' (tk y)) y.u) :
    ∀ (y : Say) (b' : Bool) {p k N : Nat} {post : List Str} {D : EU} {z w : Option U}, y.On GW → y.parts ≤ X → y.deep ≤ DX → brl b' (lev y) ≤ L → ((b' = false ∧ rk y = r) ∨ (y.parts < X ∧ y.deep + 1 ≤ DX ∧ (b' = false → r + 1 ≤ rk y))) →
      ts.drop p = brT b' (tk y) ++ post → Nx (nxt post) k → k ≤ r → (b' = false ∧ rk y = r → r < 3 → k ≠ r) → y.parts ≤ N →
      (∀ N' w', N ≤ N' + y.parts → WS (whR (call m) N' [some (.loc n), some (.int (r : Int)), some y.u, w'] (rdS S n ts (p + (brT b' (tk y)).length) o e)) D) →
      WS (setR (call m) [some (.loc n), some (.int (r : Int)), z, w] (rdS S n ts p o e)) { D with nx := fun d1 S1 => WS (whR (call m) N d1 S1) D }
  | y, b', p, k, N, post, D, z, w, hw, hX, hD, hL, hc, hp, hx, hk, hk3, hN, hf => by
    by_cases c : y.parts < X ∧ y.deep + 1 ≤ DX ∧ (b' = false → r + 1 ≤ rk y)
    · exact rd_set1 hn (ih y b' c.1 hw c.2.1 hL c.2.2) hp hx hk (hf N w (by omega))
    · obtain ⟨rfl, hrk⟩ := hc.resolve_right c
      cases y with
      | bin o' a b =>
        have hrk : rkO o' = r := hrk
        have hX : a.parts + b.parts + 1 ≤ X := hX
        have hD : max a.deep b.deep + 1 ≤ DX := hD
        have hL : max (brl (lb o' a) (lev a)) (brl (rb o' b) (lev b)) ≤ L := hL
        have hN : a.parts + b.parts + 1 ≤ N := hN
        have hpa := a.parts_pos
        have hpb := b.parts_pos
        have hp : ts.drop p = (brT (lb o' a) (tk a) ++ sg o' :: brT (rb o' b) (tk b)) ++ post := hp
        have hp2 : ts.drop p = brT (lb o' a) (tk a) ++ (sg o' :: (brT (rb o' b) (tk b) ++ post)) := by
          rw [hp, List.append_assoc]
          rfl
        have hk3 : r < 3 → k ≠ r := hk3 ⟨rfl, hrk⟩
        have hlb : lb o' a = false → r ≤ rk a ∧ (rk a = r → ¬ r < 3) := fun q => by
          unfold lb at q
          simp only [Bool.or_eq_false_iff, Bool.and_eq_false_iff, decide_eq_false_iff_not] at q
          rw [hrk] at q
          omega
        have hrb : rb o' b = false → r + 1 ≤ rk b := fun q => by
          unfold rb at q
          rw [hrk] at q
          have := of_decide_eq_false q
          omega
        refine spine hr hr4 hm ih a (lb o' a) (k := r) hw.1 (by omega) (by omega) (by omega) ?_ hp2 (hrk ▸ nx_sg o') (Nat.le_refl _) (fun q1 q2 => absurd q2 ((hlb q1.1).2 q1.2)) (by omega) fun N' w' hN' => ?_
        · by_cases q : lb o' a = false ∧ rk a = r
          · exact .inl q
          · refine .inr ⟨by omega, by omega, fun q2 => ?_⟩
            have := (hlb q2).1
            have : rk a ≠ r := fun q3 => q ⟨q2, q3⟩
            omega
        · obtain ⟨N2, rfl⟩ : ∃ N2, N' = N2 + 1 := ⟨N' - 1, by omega⟩
          have d1 := drop_more hp2
          have d2 : ts.drop (p + (brT (lb o' a) (tk a)).length + 1) = brT (rb o' b) (tk b) ++ post := by rw [← List.drop_drop, d1]; rfl
          have d3 := drop_more d2
          refine w_while1 ?_
          refine y_B (y_f2 ((y_nx hn (k := r) rfl (by omega) (by rw [d1]; exact hrk ▸ nx_sg o')).mono ?_))
          rintro _ _ ⟨rfl, rfl⟩
          refine y_var rfl (y_eqI ?_)
          rw [decide_eq_true (show (r : Int) = (r : Int) from rfl)]
          refine y_tbl ?_
          rw [if_pos rfl]
          obtain ⟨m2, rfl⟩ : ∃ m2, m = m2 + 2 := ⟨m - 2, by omega⟩
          refine w_seq (w_set (y_wix (y_meth ?_)))
          walk_at "wp"
          refine ⟨ins_ok (rd_at hn _ o e) rfl, ?_⟩
          walk_at "wp"
          refine ⟨rfl, (rd_taken (k := m2) hn).mono ?_⟩
          rintro _ _ ⟨rfl, rfl⟩
          rw [d1, show nxt (sg o' :: (brT (rb o' b) (tk b) ++ post)) = sg o' from rfl]
          refine ⟨sg o', .str o'.s, rfl, by cases o' <;> rfl, ?_⟩
          refine w_seq (w_set ?_)
          walk_at "wp"
          refine y_meth ?_
          walk_at "wp"
          refine ⟨ins_ok (rd_at hn _ o e) rfl, ?_⟩
          walk_at "wp"
          refine ⟨rfl, (ih b (rb o' b) (by omega) hw.2 (by omega) (by omega) hrb _ post k d2 hx (by omega)).mono ?_⟩
          rintro _ _ ⟨rfl, rfl⟩
          walk_at "wp"
          refine w_if (y_and (y_B (y_f2 ?_)))
          walk_at "wp"
          have ep : p + (brT (lb o' a) (tk a)).length + 1 + (brT (rb o' b) (tk b)).length = p + (brT false (tk (.bin o' a b))).length := by
            show _ = p + (brT (lb o' a) (tk a) ++ sg o' :: brT (rb o' b) (tk b)).length
            rw [List.length_append, List.length_cons]
            omega
          have fin : ∀ w', WS (whR (call (m2 + 2)) N2 [some (.loc n), some (.int (r : Int)), some (Say.bin o' a b).u, w'] (rdS S n ts (p + (brT (lb o' a) (tk a)).length + 1 + (brT (rb o' b) (tk b)).length) o e)) D := fun w' => by
            rw [ep]
            exact hf N2 w' (by show N ≤ N2 + (a.parts + b.parts + 1); omega)
          refine ite_b (fun h => ?_) (fun h => ?_)
          · have h := of_decide_eq_true h
            refine y_B (y_f2 ((y_nx hn (k := k) rfl (by omega) (by rw [d3]; exact hx)).mono ?_))
            rintro _ _ ⟨rfl, rfl⟩
            refine y_var rfl (y_eqI ?_)
            rw [decide_eq_false (show ¬ (k : Int) = (r : Int) by have := hk3 (by omega); omega)]
            refine y_tbl ?_
            rw [if_neg Bool.false_ne_true]
            exact w_nop (fin _)
          · rw [if_neg Bool.false_ne_true]
            exact w_nop (fin _)
      | neg a => exact absurd hrk (by show ¬ (5 : Nat) = r; omega)
      | name a => exact absurd hrk (by show ¬ (6 : Nat) = r; omega)
      | yes => exact absurd hrk (by show ¬ (6 : Nat) = r; omega)
      | no => exact absurd hrk (by show ¬ (6 : Nat) = r; omega)
theorem rd_bin {o e m : Nat} {op : Op} {a b : Say} (hm : 2 ≤ m) (hP : (Say.bin op a b).parts ≤ 100000) (hw : (Say.bin op a b).On GW)
    (ih : ∀ (y : Say) (b' : Bool), y.parts < (Say.bin op a b).parts → y.On GW → y.deep + 1 ≤ (Say.bin op a b).deep → brl b' (lev y) ≤ lev (.bin op a b) → (b' = false → rkO op + 1 ≤ rk y) → RdA S n ts o e m (rkO op + 1) (brT b' (tk y)) y.u) :
    RdA S n ts o e (m + 1) (rkO op) (tk (.bin op a b)) (Say.bin op a b).u := fun p post k hp hx hk => by
  have ro := rkO_pos op
  refine y_run ?_
  show WS (b_Reader_of_rank (call m) [some (.loc n), some (.int (rkO op : Int)), none, none] (rdS S n ts p o e)) _
  unfold b_Reader_of_rank
  refine w_seq (w_if ?_)
  walk_at "wp"
  refine ite_b (fun c => absurd (of_decide_eq_true c) (by omega)) (fun _ => ?_)
  refine w_nop ?_
  let Q : U → Sto → Prop := fun v S' => v = (Say.bin op a b).u ∧ S' = rdS S n ts (p + (tk (.bin op a b)).length) o e
  let D0 : EU := { nx := fun _ S1 => Q .non S1, rt := Q }
  have sp := spine hn (o := o) (e := e) (L := lev (.bin op a b)) ro.1 ro.2 hm ih (.bin op a b) false (z := none) (w := none) (p := p) (post := post) (k := k) (N := 1000000) (D := { D0 with nx := fun d1 S1 => WS (fRet (fVar 2) d1 S1) D0 }) hw (Nat.le_refl _) (Nat.le_refl _) (Nat.le_refl _) (.inl ⟨rfl, rfl⟩) hp hx (by omega) (fun _ _ => by omega) (by omega) fun N' w' hN' => by
    obtain ⟨N2, rfl⟩ : ∃ N2, N' = N2 + 1 := ⟨N' - 1, by omega⟩
    refine rd_end hn (k := k) (by omega) (by show Nx (nxt (ts.drop (p + (tk (.bin op a b)).length))) k; rw [drop_more hp]; exact hx) (by omega) ?_
    exact w_ret (y_var rfl ⟨rfl, rfl⟩)
  exact w_seq (sp.mono (fun d1 S1 q => w_seq q) (fun _ _ q => q) (fun _ _ q => q) (fun _ _ q => q) (fun _ _ _ q => q))
def RdX (S : Sto) (n : Nat) (ts : List Str) (x : Say) (b : Bool) : Prop :=
  ∀ o e, o + x.deep + (if b then 1 else 0) ≤ 51 → e + x.deep ≤ 25 →
    (∀ r m, 1 ≤ r → r ≤ 5 → (b = false → r ≤ rk x) → brl b (lev x) + 1 ≤ m + r → RdA S n ts o e m r (brT b (tk x)) x.u) ∧
    ((b = false → 5 ≤ rk x) → ∀ m, brl b (lev x) ≤ m + 5 → RdG S n ts o e m (brT b (tk x)) x.u)
theorem rd_downs {o e : Nat} {toks : List Str} {u : U} : ∀ (j r m : Nat), 1 ≤ r → r + j ≤ 5 → 1 ≤ m → RdA S n ts o e m (r + j) toks u → RdA S n ts o e (m + j) r toks u
  | 0, r, m, _, _, _, h => h
  | j + 1, r, m, h1, h2, hm, h => by
    have := rd_downs j (r + 1) m (by omega) (by omega) hm (by rw [show r + 1 + j = r + (j + 1) by omega]; exact h)
    exact rd_down hn (m := m + j) h1 (by omega) (by omega) this
theorem rd_all {o e L : Nat} {toks : List Str} {u : U} (hL : 8 ≤ L) (h : ∀ m, L ≤ m + 5 → RdG S n ts o e m toks u) {r m : Nat} (h1 : 1 ≤ r) (h2 : r ≤ 5) (hm : L + 1 ≤ m + r) : RdA S n ts o e m r toks u := by
  have h5 := rd_five hn (h (m + r - 6) (by omega))
  have := rd_downs hn (5 - r) r (m + r - 6 + 1) h1 (by omega) (by omega) (by rw [show r + (5 - r) = 5 by omega]; exact h5)
  rw [show m + r - 6 + 1 + (5 - r) = m by omega] at this
  exact this
theorem rdx_br {x : Say} (h : RdX S n ts x false) : RdX S n ts x true := fun o e ho he => by
  have hd := x.deep_pos
  have hL := lev_ge x
  have ho : o + x.deep + 1 ≤ 51 := ho
  have hb : brl true (lev x) = lev x + 7 := rfl
  have g : ∀ m, brl true (lev x) ≤ m + 5 → RdG S n ts o e m (brT true (tk x)) x.u := fun m hm => by
    have := (h (o + 1) e (by show o + 1 + x.deep + 0 ≤ 51; omega) he).1 1 (m - 2) (by omega) (by omega) (fun _ => rk_pos x) (by show lev x + 1 ≤ _; omega)
    have := rd_brk hn (o := o) (m := m - 4) (by omega) (by rw [show m - 4 + 2 = m - 2 by omega]; exact this)
    rw [show m - 4 + 4 = m by omega] at this
    exact this
  exact ⟨fun r m h1 h2 _ hm => rd_all hn (by omega) g h1 h2 hm, fun _ => g⟩
theorem rdx_at {x : Say} (h5 : 5 ≤ rk x) (g : ∀ o e, o + x.deep ≤ 51 → e + x.deep ≤ 25 → ∀ m, lev x ≤ m + 5 → RdG S n ts o e m (tk x) x.u) : RdX S n ts x false := fun o e ho he =>
  ⟨fun r m h1 h2 _ hm => rd_all hn (lev_ge x) (g o e ho he) h1 h2 hm, fun _ => g o e ho he⟩
theorem rdx : ∀ (N : Nat) (x : Say), x.parts ≤ N → x.parts ≤ 100000 → x.On GW → RdX S n ts x false
  | 0, x, hN, _, _ => absurd hN (by have := x.parts_pos; omega)
  | N + 1, .yes, _, _, _ => rdx_at hn (by show 5 ≤ 6; omega) fun o e _ _ m hm => by
    have hm : 8 ≤ m + 5 := hm
    obtain ⟨k, rfl⟩ : ∃ k, m = k + 3 := ⟨m - 3, by omega⟩
    exact rd_atom hn (.inl rfl)
  | N + 1, .no, _, _, _ => rdx_at hn (by show 5 ≤ 6; omega) fun o e _ _ m hm => by
    have hm : 8 ≤ m + 5 := hm
    obtain ⟨k, rfl⟩ : ∃ k, m = k + 3 := ⟨m - 3, by omega⟩
    exact rd_atom hn (.inr rfl)
  | N + 1, .name w, _, _, hw => rdx_at hn (by show 5 ≤ 6; omega) fun o e _ _ m hm => by
    have hm : 8 ≤ m + 5 := hm
    obtain ⟨k, rfl⟩ : ∃ k, m = k + 3 := ⟨m - 3, by omega⟩
    exact rd_name hn hw
  | N + 1, .neg a, hN, hP, hw => rdx_at hn (by show 5 ≤ 5; omega) fun o e ho he m hm => by
    have hN : a.parts + 1 ≤ N + 1 := hN
    have ho : o + (a.deep + 1) ≤ 51 := ho
    have he : e + (a.deep + 1) ≤ 25 := he
    have hm : 2 + brl (decide (rk a < 5)) (lev a) ≤ m + 5 := hm
    have hd := a.deep_pos
    have h8 := lev_ge a
    have h9 := brl_ge (decide (rk a < 5)) (lev a)
    have hP : a.parts + 1 ≤ 100000 := hP
    have h0 := rdx N a (by omega) (by omega) hw
    have hx : RdX S n ts a (decide (rk a < 5)) := by
      cases decide (rk a < 5) with
      | false => exact h0
      | true => exact rdx_br hn h0
    have := (hx o (e + 1) (by split <;> omega) (by omega)).2 (fun q => by have := of_decide_eq_false q; omega) (m - 2) (by omega)
    have := rd_neg hn (e := e) (m := m - 4) (by omega) (by rw [show m - 4 + 2 = m - 2 by omega]; exact this)
    rw [show m - 4 + 4 = m by omega] at this
    exact this
  | N + 1, .bin op a b, hN, hP, hw => fun o e ho he => by
    have hN : (Say.bin op a b).parts ≤ N + 1 := hN
    have ho : o + (Say.bin op a b).deep ≤ 51 := ho
    have ro := rkO_pos op
    have h8 := lev_ge (.bin op a b)
    have hA : ∀ m, lev (.bin op a b) + 1 ≤ m + rkO op → RdA S n ts o e m (rkO op) (tk (.bin op a b)) (Say.bin op a b).u := fun m hm => by
      have := rd_bin hn (o := o) (e := e) (m := m - 1) (by omega) hP hw fun y b' hy hyw hyd hyl hyr => by
        have h0 := rdx N y (by omega) (by omega) hyw
        have hx : RdX S n ts y b' := by
          cases b' with
          | false => exact h0
          | true => exact rdx_br hn h0
        exact (hx o e (by split <;> omega) (by omega)).1 (rkO op + 1) (m - 1) (by omega) (by omega) hyr (by omega)
      rw [show m - 1 + 1 = m by omega] at this
      exact this
    refine ⟨fun r m h1 h2 h3 hm => ?_, fun q => absurd (q rfl) (by show ¬ 5 ≤ rkO op; omega)⟩
    have hr : r ≤ rkO op := h3 rfl
    have hm : lev (.bin op a b) + 1 ≤ m + r := hm
    have := rd_downs hn (rkO op - r) r (m - (rkO op - r)) h1 (by omega) (by omega) (by rw [show r + (rkO op - r) = rkO op by omega]; exact hA _ (by omega))
    rw [show m - (rkO op - r) + (rkO op - r) = m by omega] at this
    exact this
end
theorem y_sh {k i : Nat} {us : List U} {S : Sto} {Q : U → Sto → Prop} (h : Y (call k i us S) Q) : Y (call (k + 1) (i + 1000) us S) Q := by
  rw [call_sh]
  exact h
theorem reader_init {k n : Nat} {ts : List Str} {S : Sto} (h : S[n]? = some (.ins "Reader" [])) : Y (call (k + 1) i_Reader___init__ [.loc n, .lst (ts.map .str)] S) fun u S' => u = .non ∧ S' = rdS S n ts 0 0 0 := by
  have hn := (List.getElem?_eq_some_iff.mp h).1
  refine y_run ?_
  show WS (b_Reader___init__ (call k) [some (.loc n), some (.lst (ts.map .str))] S) _
  unfold b_Reader___init__
  refine w_seq (w_putF ?_)
  walk_at "wp"
  refine ⟨n, _, rfl, h, (by show 0 < 1000; decide), ?_⟩
  refine w_seq (w_putF ?_)
  walk_at "wp"
  refine ⟨n, _, rfl, List.getElem?_set_self hn, (by show 1 < 1000; decide), ?_⟩
  rw [List.set_set]
  refine w_seq (w_putF ?_)
  walk_at "wp"
  refine ⟨n, _, rfl, List.getElem?_set_self hn, (by show 2 < 1000; decide), ?_⟩
  rw [List.set_set]
  refine w_putF ?_
  walk_at "wp"
  refine ⟨n, _, rfl, List.getElem?_set_self hn, (by show 3 < 1000; decide), ?_⟩
  rw [List.set_set]
  exact ⟨rfl, rfl⟩
theorem read_sayingT {k : Nat} {t : Str} {ts : List Str} {x : Say} {S : Sto} (hk : 190 ≤ k) (hd : x.deep ≤ 25) (hp : x.parts ≤ 400) (hw : x.On GW) (hl : t.length ≤ 200000) (hch : ∀ c ∈ TL.tl t, SgC c) (hrun : runC (TL.tl t ++ [32]) ([], "") = (ts, ("" : Str))) (hrd : ∀ {S : Sto} {n : Nat}, n < S.length → RdA S n ts 0 0 k 1 ts x.u) : Y (call (k + 1) i_read_saying [.str t] S) fun u S' => u = x.u ∧ Fr [] S S' := by
  have hdp := x.deep_pos
  obtain ⟨j, rfl⟩ : ∃ j, k = j + 3 := ⟨k - 3, by omega⟩
  refine y_run ?_
  show WS (b_read_saying (call (j + 3)) [some (.str t), none, none, none] S) _
  unfold b_read_saying
  refine w_seq (w_set (y_if ?_))
  walk_at "wp"
  refine Y.of (show isiC [.str t, .ty "str"] S = .ok (.bl true) S from rfl) ?_
  walk_at "wp"
  refine ite_b (fun _ => ?_) (fun z => by cases z)
  walk_at "wp"
  refine ⟨rfl, (pieces_ofT (k := j + 2) hl hch hrun).mono ?_⟩
  rintro _ S1 ⟨rfl, f1⟩
  refine w_seq (w_if ?_)
  walk_at "wp"
  refine ite_b (fun z => by cases z) (fun _ => ?_)
  refine w_nop ?_
  refine w_seq (w_set (y_make ?_))
  walk_at "wp"
  refine ⟨rfl, y_sh ((reader_init (k := j + 1) (ts := ts) sto_snoc).mono ?_)⟩
  rintro _ S2 ⟨rfl, e2⟩
  refine ⟨rfl, ?_⟩
  have hn : S1.length < (S1 ++ [Ob.ins "Reader" []]).length := by rw [List.length_append, List.length_singleton]; omega
  subst e2
  have f2 : ∀ p o e, Fr [] S (rdS (S1 ++ [Ob.ins "Reader" []]) S1.length ts p o e) := fun p o e =>
    (f1.trans Fr.push).thenNew (Fr.set (ms := [S1.length]) (by simp)) f1.1
  refine w_seq (w_set (y_meth ?_))
  walk_at "wp"
  refine ⟨ins_ok (rd_at hn 0 0 0) rfl, ?_⟩
  walk_at "wp"
  refine ⟨rfl, (hrd hn 0 [] 0 (by rw [List.drop_zero, List.append_nil]) nx_nil (by decide)).mono ?_⟩
  rintro _ _ ⟨rfl, rfl⟩
  refine w_seq (w_if (y_or (y_B (y_f2 (y_meth ?_)))))
  walk_at "wp"
  refine ⟨ins_ok (rd_at hn _ 0 0) rfl, ?_⟩
  walk_at "wp"
  refine ⟨rfl, (rd_now (k := j + 2) hn).mono ?_⟩
  rintro _ _ ⟨rfl, rfl⟩
  have ee : ts.drop (0 + ts.length) = [] := by
    rw [Nat.zero_add]
    exact List.drop_length
  rw [ee]
  walk_at "wp"
  refine ite_b (fun z => by cases z) (fun _ => ?_)
  walk_at "wp"
  refine ⟨rfl, (is_saying (m := j + 2) (x := x) (by omega) hd hp hw).mono ?_⟩
  rintro _ _ ⟨rfl, rfl⟩
  walk_at "wp"
  refine ite_b (fun z => by cases z) (fun _ => ?_)
  refine w_nop ?_
  walk_at "wp"
  exact ⟨rfl, f2 _ _ _⟩
section
variable {S : Sto} {n : Nat} {ts : List Str} (hn : n < S.length)
include hn
theorem rd_two {o e m : Nat} {op : Op} {A B : List Str} {ua ub : U} (hm : 2 ≤ m) (hA : RdA S n ts o e m (rkO op + 1) A ua) (hB : RdA S n ts o e m (rkO op + 1) B ub) : RdA S n ts o e (m + 1) (rkO op) (A ++ sg op :: B) (.tup [.str op.s, ua, ub]) := fun p post k hp hx hk => by
  have ro := rkO_pos op
  have hp2 : ts.drop p = A ++ (sg op :: (B ++ post)) := by rw [hp, List.append_assoc]; rfl
  have d1 := drop_more hp2
  have d2 : ts.drop (p + A.length + 1) = B ++ post := by rw [← List.drop_drop, d1]; rfl
  have d3 := drop_more d2
  have ep : p + A.length + 1 + B.length = p + (A ++ sg op :: B).length := by rw [List.length_append, List.length_cons]; omega
  refine y_run ?_
  show WS (b_Reader_of_rank (call m) [some (.loc n), some (.int (rkO op : Int)), none, none] (rdS S n ts p o e)) _
  unfold b_Reader_of_rank
  refine w_seq (w_if ?_)
  walk_at "wp"
  refine ite_b (fun c => absurd (of_decide_eq_true c) (by omega)) (fun _ => ?_)
  refine w_nop ?_
  refine w_seq (rd_set1 hn (z := none) (w := none) hA hp2 (nx_sg op) (Nat.le_refl _) ?_)
  refine w_seq ?_
  refine w_while1 ?_
  refine y_B (y_f2 ((y_nx hn (k := rkO op) rfl (by omega) (by rw [d1]; exact nx_sg op)).mono ?_))
  rintro _ _ ⟨rfl, rfl⟩
  refine y_var rfl (y_eqI ?_)
  rw [decide_eq_true (show (rkO op : Int) = (rkO op : Int) from rfl)]
  refine y_tbl ?_
  rw [if_pos rfl]
  obtain ⟨m2, rfl⟩ : ∃ m2, m = m2 + 2 := ⟨m - 2, by omega⟩
  refine w_seq (w_set (y_wix (y_meth ?_)))
  walk_at "wp"
  refine ⟨ins_ok (rd_at hn _ o e) rfl, ?_⟩
  walk_at "wp"
  refine ⟨rfl, (rd_taken (k := m2) hn).mono ?_⟩
  rintro _ _ ⟨rfl, rfl⟩
  rw [d1, show nxt (sg op :: (B ++ post)) = sg op from rfl]
  refine ⟨sg op, .str op.s, rfl, by cases op <;> rfl, ?_⟩
  refine w_seq (w_set ?_)
  walk_at "wp"
  refine y_meth ?_
  walk_at "wp"
  refine ⟨ins_ok (rd_at hn _ o e) rfl, ?_⟩
  walk_at "wp"
  refine ⟨rfl, (hB _ post k d2 hx (by omega)).mono ?_⟩
  rintro v _ ⟨hv, rfl⟩
  rw [hv]
  clear hv
  walk_at "wp"
  refine w_if (y_and (y_B (y_f2 ?_)))
  walk_at "wp"
  have fin : ∀ w', WS (whR (call (m2 + 2)) 999999 [some (.loc n), some (.int (rkO op : Int)), some (.tup [.str op.s, ua, ub]), w'] (rdS S n ts (p + A.length + 1 + B.length) o e)) { nx := fun d1 S1 => WS (fRet (fVar 2) d1 S1) { nx := fun _ S1 => U.non = .tup [.str op.s, ua, ub] ∧ S1 = rdS S n ts (p + (A ++ sg op :: B).length) o e, rt := fun v S' => v = .tup [.str op.s, ua, ub] ∧ S' = rdS S n ts (p + (A ++ sg op :: B).length) o e }, rt := fun v S' => v = .tup [.str op.s, ua, ub] ∧ S' = rdS S n ts (p + (A ++ sg op :: B).length) o e } := fun w' => by
    rw [ep]
    refine rd_end hn (N := 999998) (k := k) (by omega) (by rw [← ep, d3]; exact hx) (by omega) ?_
    exact w_ret (y_var rfl ⟨rfl, rfl⟩)
  refine ite_b (fun h => ?_) (fun h => ?_)
  · have h := of_decide_eq_true h
    refine y_B (y_f2 ((y_nx hn (k := k) rfl (by omega) (by rw [d3]; exact hx)).mono ?_))
    rintro _ _ ⟨rfl, rfl⟩
    refine y_var rfl (y_eqI ?_)
    rw [decide_eq_false (show ¬ (k : Int) = (rkO op : Int) by omega)]
    refine y_tbl ?_
    rw [if_neg Bool.false_ne_true]
    exact w_nop (fin _)
  · rw [if_neg Bool.false_ne_true]
    exact w_nop (fin _)
end
def LoQ (L B : Nat) (x : Say) (t : List Str) : Prop := ∀ {S : Sto} {n : Nat} {ts : List Str}, n < S.length → ∀ o e, o + B ≤ 50 → e + x.deep ≤ 25 → ∀ m, L ≤ m → RdA S n ts o e m 1 t x.u
theorem LoQ.more {L B L' B' : Nat} {x : Say} {t : List Str} (h : LoQ L B x t) (hL : L ≤ L') (hB : B ≤ B') : LoQ L' B' x t := fun {S n ts} hn o e ho he m hm => h hn o e (by omega) he m (by omega)
theorem lo_brk {L B : Nat} {x : Say} {t : List Str} (h : LoQ L B x t) (h2 : 2 ≤ L) {S : Sto} {n : Nat} {ts : List Str} (hn : n < S.length) (o e : Nat) (ho : o + B + 1 ≤ 50) (he : e + x.deep ≤ 25) (m : Nat) (hm : L + 2 ≤ m) : RdG S n ts o e m ("(" :: (t ++ ([")"] : List Str))) x.u := by
  have := rd_brk (ts := ts) hn (o := o) (m := m - 4) (by omega) (h hn (o + 1) e (by omega) he (m - 4 + 2) (by omega))
  rw [show m - 4 + 4 = m by omega] at this
  exact this
theorem lo_wrap {L B : Nat} {x : Say} {t : List Str} (h : LoQ L B x t) (h2 : 2 ≤ L) : LoQ (L + 7) (B + 1) x ("(" :: (t ++ ([")"] : List Str))) := fun {S n ts} hn o e ho he m hm =>
  rd_all hn (L := L + 7) (by omega) (fun m' hm' => lo_brk h h2 hn o e (by omega) he m' (by omega)) (by omega) (by omega) (by omega)
theorem lo_yn {w : Str} {x : Say} (h : w = "yes" ∧ x = .yes ∨ w = "no" ∧ x = .no) : LoQ 8 0 x [w] := fun {S n ts} hn o e ho he m hm => by
  refine rd_all hn (L := 8) (by omega) (fun m' hm' => ?_) (by omega) (by omega) (by omega)
  obtain ⟨k, rfl⟩ : ∃ k, m' = k + 3 := ⟨m' - 3, by omega⟩
  rcases h with ⟨rfl, rfl⟩ | ⟨rfl, rfl⟩
  · exact rd_atom hn (.inl rfl)
  · exact rd_atom hn (.inr rfl)
theorem lo_name {w : Str} (h : GW w) : LoQ 8 0 (.name w) [w] := fun {S n ts} hn o e ho he m hm => by
  refine rd_all hn (L := 8) (by omega) (fun m' hm' => ?_) (by omega) (by omega) (by omega)
  obtain ⟨k, rfl⟩ : ∃ k, m' = k + 3 := ⟨m' - 3, by omega⟩
  exact rd_name hn h
theorem lo_neg {L B : Nat} {x : Say} {t : List Str} (h : LoQ L B x t) (h2 : 2 ≤ L) : LoQ (L + 9) (B + 1) (.neg x) ("not" :: "(" :: (t ++ ([")"] : List Str))) := fun {S n ts} hn o e ho he m hm => by
  have he : e + (x.deep + 1) ≤ 25 := he
  have hd := x.deep_pos
  refine rd_all hn (L := L + 9) (by omega) (fun m' hm' => ?_) (by omega) (by omega) (by omega)
  obtain ⟨k, rfl⟩ : ∃ k, m' = k + 4 := ⟨m' - 4, by omega⟩
  exact rd_neg hn (by omega) (lo_brk h h2 hn o (e + 1) (by omega) (by omega) (k + 2) (by omega))
theorem lo_bin {La Lb B L : Nat} {op : Op} {a b : Say} {ta tb : List Str} (ha : LoQ La B a ta) (hb : LoQ Lb B b tb) (h2a : 2 ≤ La) (h2b : 2 ≤ Lb) (h1 : La + 10 ≤ L) (h2 : Lb + 10 ≤ L) : LoQ L (B + 1) (.bin op a b) ((("(" : Str) :: (ta ++ ([")"] : List Str)) : List Str) ++ sg op :: (("(" : Str) :: (tb ++ ([")"] : List Str)))) := fun {S n ts} hn o e ho he m hm => by
  have he : e + (max a.deep b.deep + 1) ≤ 25 := he
  have ro := rkO_pos op
  obtain ⟨j, rfl⟩ : ∃ j, m = j + 1 + (rkO op - 1) := ⟨m - rkO op, by omega⟩
  have hA := rd_all (ts := ts) (L := La + 7) (r := rkO op + 1) (m := j) hn (by omega) (fun m' hm' => lo_brk ha h2a hn o e (by omega) (by omega) m' (by omega)) (by omega) (by omega) (by omega)
  have hB := rd_all (ts := ts) (L := Lb + 7) (r := rkO op + 1) (m := j) hn (by omega) (fun m' hm' => lo_brk hb h2b hn o e (by omega) (by omega) m' (by omega)) (by omega) (by omega) (by omega)
  have h := rd_two hn (m := j) (op := op) (by omega) hA hB
  exact rd_downs hn (rkO op - 1) 1 (j + 1) (by omega) (by omega) (by omega) (by rw [show 1 + (rkO op - 1) = rkO op by omega]; exact h)
theorem good_nil : Good [] [] := fun F c h => by
  show stepC (F, "") c = _
  unfold stepC
  rw [if_neg (by rw [sep_no h]; exact Bool.false_ne_true), fl_empty h, List.append_nil]
theorem good_sep {l m : List Nat} {ts us : List Str} {c : Nat} (h1 : Good l ts) (hc : sep3 c) (h2 : Good m us) : Good (l ++ c :: m) (ts ++ (sepC c ++ us)) := fun F c' hc' => by
  rw [runC_app]
  show stepC (runC m (stepC (runC l (F, "")) c)) c' = _
  rw [h1 F c hc, h2 _ c' hc', List.append_assoc F ts, List.append_assoc F, List.append_assoc ts]
theorem sp40 : sep3 40 := .inr (.inl rfl)
theorem sp41 : sep3 41 := .inr (.inr rfl)
theorem sp32 : sep3 32 := .inl rfl
theorem good_one {l : List Nat} {ts : List Str} (h : Good l ts) : Good (l ++ [41]) (ts ++ ([")"] : List Str)) := good_sep h sp41 good_nil
theorem good_open {l : List Nat} {ts : List Str} (h : Good l ts) : Good (40 :: l) ("(" :: ts) := good_sep good_nil sp40 h
theorem good_blank {l : List Nat} {ts : List Str} (h : Good l ts) : Good (32 :: l) ts := good_sep good_nil sp32 h
theorem good_end {l m : List Nat} {ts us : List Str} (h : Good l ts) (h2 : Good m us) : Good (l ++ 41 :: m) (ts ++ (")" : Str) :: us) := good_sep h sp41 h2
theorem good_gap {l m : List Nat} {ts us : List Str} (h : Good l ts) (h2 : Good m us) : Good (l ++ 32 :: m) (ts ++ us) := good_sep h sp32 h2
theorem good_bro {l m : List Nat} {ts us : List Str} (h : Good l ts) (h2 : Good m us) : Good (l ++ 40 :: m) (ts ++ ("(" : Str) :: us) := good_sep h sp40 h2
def sgL (z : Str) : Prop := ∀ c ∈ TL.tl z, SgC c
theorem sgL_app {a b : Str} (ha : sgL a) (hb : sgL b) : sgL (a ++ b) := fun c hc => by
  rw [TL.tl_append] at hc
  exact (List.mem_append.mp hc).elim (ha c) (hb c)
def litL : List Str := ["(", ")", " )", "( ", " (  ", "", " ", "  ", "   ", "not", "is", "gives", "and", "or", "yes", "no"]
theorem lit_sg : ∀ z ∈ litL, sgL z := by unfold sgL SgC sep3; decide +kernel
structure LoS (x : Say) (L B : Nat) (t : Str) (ts : List Str) : Prop where
  good : Good (TL.tl t) ts
  sg : sgL t
  lo : LoQ L B x ts
  low : 8 ≤ L
theorem tl_par (t : Str) : TL.tl ("(" ++ t ++ ")") = 40 :: (TL.tl t ++ [41]) := by rw [TL.tl_append, TL.tl_append]; rfl
theorem tl_par2 (t : Str) : TL.tl ("( " ++ t ++ ")") = 40 :: 32 :: (TL.tl t ++ [41]) := by rw [TL.tl_append, TL.tl_append]; rfl
theorem LoS.par {x : Say} {L B : Nat} {t : Str} {ts : List Str} (h : LoS x L B t ts) : LoS x (L + 7) (B + 1) ("(" ++ t ++ ")") ("(" :: (ts ++ ([")"] : List Str))) :=
  ⟨by rw [tl_par]; exact good_open (good_one h.good), sgL_app (sgL_app (lit_sg _ (by decide)) h.sg) (lit_sg _ (by decide)), lo_wrap h.lo (by have := h.low; omega), by have := h.low; omega⟩
theorem LoS.par2 {x : Say} {L B : Nat} {t : Str} {ts : List Str} (h : LoS x L B t ts) : LoS x (L + 7) (B + 1) ("( " ++ t ++ ")") ("(" :: (ts ++ ([")"] : List Str))) :=
  ⟨by rw [tl_par2]; exact good_open (good_blank (good_one h.good)), sgL_app (sgL_app (lit_sg _ (by decide)) h.sg) (lit_sg _ (by decide)), lo_wrap h.lo (by have := h.low; omega), by have := h.low; omega⟩
theorem LoS.more {x : Say} {L B L' B' : Nat} {t : Str} {ts : List Str} (h : LoS x L B t ts) (hL : L ≤ L') (hB : B ≤ B') : LoS x L' B' t ts := ⟨h.good, h.sg, LoQ.more h.lo hL hB, by have := h.low; omega⟩
def LoP (n : Nat) (x : Say) (b : Int) (S : Sto) (u : U) (S' : Sto) : Prop := ∃ (t : Str) (ts : List Str), u = .str t ∧ LoS x (17 * x.deep) (2 * x.deep) t ts ∧ t.length ≤ 25 * x.parts ∧ Tape n b S' ∧ Fr [n] S S'
theorem loose_end {n k L B W : Nat} {x : Say} {t : Str} {ts : List Str} {a1 a2 a4 a5 a6 : Option U} {b : Int} {S0 S : Sto} (h : LoS x L B t ts) (hL : L + 7 ≤ 17 * x.deep) (hB : B + 1 ≤ 2 * x.deep) (hw : t.length ≤ W) (hW : W + 3 ≤ 25 * x.parts) (hp : x.parts ≤ 1000) (t0 : Tape n b S) (hb : b ≤ 2 ^ 100) (f0 : Fr [n] S0 S) :
    (fun c : Nat → List U → Sto → R U => WS (((fRet (f2 ixU (fVal (aLst (aCons (fVar 3) (aCons (f2 addU (f2 addU (fC (.str "(")) (fVar 3)) (fC (.str ")"))) (aCons (f2 addU (f2 addU (fC (.str "( ")) (fVar 3)) (fC (.str ")"))) aNil))))) (fA maxC (aCons (fC (.int 0)) (aCons (f2 subU (fCall 2 (c i_law_draw) (aCons (fVar 0) (aCons (fC (.int 6)) aNil))) (fC (.int 3))) aNil)))))) [some (.loc n), a1, a2, some (.str t), a4, a5, a6] S) { nx := fun _ _ => False, rt := fun u S' => LoP n x (b + 30) S0 u S' }) (call (k + 1)) := by
  show WS _ _
  refine w_ret ?_
  have hlen : t.length ≤ 30000 := by omega
  walk_at "wp"
  refine y_addS (by show 1 + _ ≤ _; rw [sizeL]; omega) ?_
  walk_at "wp"
  refine y_addS (by rw [len_app, sizeL]; show 1 + _ + 1 ≤ _; omega) ?_
  walk_at "wp"
  refine y_addS (by show 2 + _ ≤ _; rw [sizeL]; omega) ?_
  walk_at "wp"
  refine y_addS (by rw [len_app, sizeL]; show 2 + _ + 1 ≤ _; omega) ?_
  walk_at "wp"
  refine ⟨rfl, (draw t0 hb (by decide) (by decide)).mono ?_⟩
  rintro _ S1 ⟨r1, rfl, r10, r11, t1, l1, f1⟩
  walk_at "wp"
  refine y_max ?_
  refine y_ixL (by split <;> omega) (show _ < (3 : Int) by split <;> omega) fun u hu _ => ?_
  simp only [List.mem_cons, List.mem_nil_iff, or_false] at hu
  rcases hu with rfl | rfl | rfl
  · exact ⟨t, ts, rfl, h.more (by omega) (by omega), by omega, t1, f0.trans f1⟩
  · exact ⟨_, _, rfl, h.par.more (by omega) (by omega), by rw [len_app, len_app]; show 1 + _ + 1 ≤ _; omega, t1, f0.trans f1⟩
  · exact ⟨_, _, rfl, h.par2.more (by omega) (by omega), by rw [len_app, len_app]; show 2 + _ + 1 ≤ _; omega, t1, f0.trans f1⟩
theorem los_word {w : Str} {x : Say} (hw : Low w) (h1 : 1 ≤ w.length) (h : LoQ 8 0 x [w]) : LoS x 8 0 w [w] := ⟨good_word hw h1, fun c hc => .inl (let_of (hw c hc)), h, Nat.le_refl _⟩
theorem not_low : Low "not" ∧ Low "yes" ∧ Low "no" := by unfold Low; decide +kernel
theorem los_not {a : Say} {L B : Nat} {z t : Str} {ts : List Str} (hz : z = "(" ∨ z = " (  ") (h : LoS a L B t ts) : LoS (.neg a) (L + 9) (B + 1) ("not" ++ z ++ t ++ ")") ("not" :: "(" :: (ts ++ ([")"] : List Str))) := by
  refine ⟨?_, ?_, lo_neg h.lo (by have := h.low; omega), by have := h.low; omega⟩
  · rw [TL.tl_append, TL.tl_append, TL.tl_append, List.append_assoc, List.append_assoc]
    have gn := good_word not_low.1 (by decide)
    rcases hz with rfl | rfl
    · exact good_bro gn (good_one h.good)
    · exact good_gap gn (good_open (good_blank (good_blank (good_one h.good))))
  · exact sgL_app (sgL_app (sgL_app (lit_sg _ (by decide)) (by rcases hz with rfl | rfl <;> exact lit_sg _ (by decide))) h.sg) (lit_sg _ (by decide))
theorem good_clo {l m : List Nat} {ts us : List Str} {z : Str} (hz : z = ")" ∨ z = " )") (h : Good l ts) (h2 : Good m us) : Good (l ++ (TL.tl z ++ m)) (ts ++ (")" : Str) :: us) := by
  rcases hz with rfl | rfl
  · exact good_end h h2
  · exact good_gap h (good_end good_nil h2)
theorem good_spc {m : List Nat} {us : List Str} {s : Str} (hs : s = "" ∨ s = " " ∨ s = "   ") (h : Good m us) : Good (TL.tl s ++ m) us := by
  rcases hs with rfl | rfl | rfl
  · exact h
  · exact good_blank h
  · exact good_blank (good_blank (good_blank h))
theorem los_bin {op : Op} {a b : Say} {La Lb Ba Bb L B : Nat} {ta tb za zb s1 s2 : Str} {us vs : List Str} (ha : LoS a La Ba ta us) (hb : LoS b Lb Bb tb vs) (hza : za = ")" ∨ za = " )") (hzb : zb = ")" ∨ zb = " )") (h1 : s1 = "" ∨ s1 = " " ∨ s1 = "   ") (h2 : s2 = "" ∨ s2 = "  ")
    (l1 : La + 10 ≤ L) (l2 : Lb + 10 ≤ L) (b1 : Ba ≤ B) (b2 : Bb ≤ B) : LoS (.bin op a b) L (B + 1) (("(" ++ ta ++ za) ++ s1 ++ sg op ++ s2 ++ ("(" ++ tb ++ zb)) (((("(" : Str) :: (us ++ ([")"] : List Str))) : List Str) ++ sg op :: (("(" : Str) :: (vs ++ ([")"] : List Str)))) := by
  have hl := ha.low
  have hl2 := hb.low
  have gs := good_word (sg_low op).1 (sg_low op).2
  have gB : Good (TL.tl tb ++ (TL.tl zb ++ [])) (vs ++ ([")"] : List Str)) := good_clo hzb hb.good good_nil
  have gR : Good (TL.tl (sg op) ++ (TL.tl s2 ++ 40 :: (TL.tl tb ++ (TL.tl zb ++ [])))) (sg op :: "(" :: (vs ++ ([")"] : List Str))) := by
    rcases h2 with rfl | rfl
    · exact good_bro gs gB
    · exact good_gap gs (good_blank (good_open gB))
  have gA := good_open (good_clo hza ha.good (good_spc h1 gR))
  refine ⟨?_, ?_, lo_bin (LoQ.more ha.lo (Nat.le_refl _) b1) (LoQ.more hb.lo (Nat.le_refl _) b2) (by omega) (by omega) l1 l2, by omega⟩
  · simp only [List.append_nil] at gA
    rw [TL.tl_append, TL.tl_append, TL.tl_append, TL.tl_append, TL.tl_append, TL.tl_append, TL.tl_append, TL.tl_append, show TL.tl "(" = [40] from rfl]
    simp only [List.append_assoc, List.cons_append, List.nil_append] at gA ⊢
    exact gA
  · have sz : ∀ z : Str, z = ")" ∨ z = " )" → sgL z := fun z hz => by rcases hz with rfl | rfl <;> exact lit_sg _ (by decide)
    refine sgL_app (sgL_app (sgL_app (sgL_app (sgL_app (sgL_app (lit_sg _ (by decide)) ha.sg) (sz _ hza)) ?_) ?_) ?_) (sgL_app (sgL_app (lit_sg _ (by decide)) hb.sg) (sz _ hzb))
    · rcases h1 with rfl | rfl | rfl <;> exact lit_sg _ (by decide)
    · cases op <;> exact lit_sg _ (by decide)
    · rcases h2 with rfl | rfl <;> exact lit_sg _ (by decide)
theorem LoP.up {n : Nat} {x : Say} {b b' : Int} {S S' : Sto} {u : U} (h : LoP n x b S u S') (hb : b ≤ b') : LoP n x b' S u S' := by
  obtain ⟨t, ts, e, h1, h2, t1, f1⟩ := h
  exact ⟨t, ts, e, h1, h2, t1.mono hb, f1⟩
theorem gw_few {w : Str} (h : GW w) : Low w ∧ 1 ≤ w.length ∧ w.length ≤ 8 := ⟨h.1.1, h.1.2.1, h.1.2.2⟩
set_option maxHeartbeats 4000000 in
theorem law_loose {n : Nat} : ∀ (x : Say) (m : Nat) {b : Int} {S : Sto}, Tape n b S → b + 150 * x.parts ≤ 2 ^ 100 → x.deep + 1 ≤ m → x.On GW → x.parts ≤ 1000 → Y (call m i_law_loose [.loc n, x.u] S) (LoP n x (b + 150 * x.parts) S)
  | x, 0, b, S, t0, hb, hm, hw, hp => absurd hm (by omega)
  | x, 1, b, S, t0, hb, hm, hw, hp => absurd hm (by have := x.deep_pos; omega)
  | .yes, m + 2, b, S, t0, hb, hm, hw, hp => by
    have hb : b + 150 * 1 ≤ 2 ^ 100 := hb
    refine y_run ?_
    show WS (b_law_loose (call (m + 1)) [some (.loc n), some (Say.u .yes), none, none, none, none, none] S) _
    unfold b_law_loose
    walk_at "wp"
    refine y_ix (u := .str "yes") rfl ?_
    refine w_seq (w_if ?_)
    walk_at "wp"
    refine y_inT ["yes", "no", "name"] rfl ?_
    walk_at "wp"
    refine ite_b (fun _ => ?_) (fun c => absurd c (by decide))
    refine w_set (y_if ?_)
    walk_at "wp"
    refine ite_b (fun c => absurd c (by decide)) (fun _ => ?_)
    refine y_var rfl ?_
    refine WS.mono (loose_end (W := 5) (b := b) (los_word not_low.2.1 (by decide) (lo_yn (.inl ⟨rfl, rfl⟩))) (by decide) (by decide) (by decide) (by decide) (by decide) t0 (by omega) (Fr.refl [n] S)) (fun _ _ h => h.elim) (fun u S1 h => LoP.up h (by show b + 30 ≤ b + 150 * 1; omega)) (fun _ _ h => h.elim) (fun _ _ h => h.elim) (fun _ _ _ h => h.elim)
  | .no, m + 2, b, S, t0, hb, hm, hw, hp => by
    have hb : b + 150 * 1 ≤ 2 ^ 100 := hb
    refine y_run ?_
    show WS (b_law_loose (call (m + 1)) [some (.loc n), some (Say.u .no), none, none, none, none, none] S) _
    unfold b_law_loose
    walk_at "wp"
    refine y_ix (u := .str "no") rfl ?_
    refine w_seq (w_if ?_)
    walk_at "wp"
    refine y_inT ["yes", "no", "name"] rfl ?_
    walk_at "wp"
    refine ite_b (fun _ => ?_) (fun c => absurd c (by decide))
    refine w_set (y_if ?_)
    walk_at "wp"
    refine ite_b (fun c => absurd c (by decide)) (fun _ => ?_)
    refine y_var rfl ?_
    refine WS.mono (loose_end (W := 5) (b := b) (los_word not_low.2.2 (by decide) (lo_yn (.inr ⟨rfl, rfl⟩))) (by decide) (by decide) (by decide) (by decide) (by decide) t0 (by omega) (Fr.refl [n] S)) (fun _ _ h => h.elim) (fun u S1 h => LoP.up h (by show b + 30 ≤ b + 150 * 1; omega)) (fun _ _ h => h.elim) (fun _ _ h => h.elim) (fun _ _ _ h => h.elim)
  | .name w, m + 2, b, S, t0, hb, hm, hw, hp => by
    have hb : b + 150 * 1 ≤ 2 ^ 100 := hb
    have hw : GW w := hw
    obtain ⟨w1, w2, w3⟩ := gw_few hw
    refine y_run ?_
    show WS (b_law_loose (call (m + 1)) [some (.loc n), some (Say.u (.name w)), none, none, none, none, none] S) _
    unfold b_law_loose
    walk_at "wp"
    refine y_ix (u := .str "name") rfl ?_
    refine w_seq (w_if ?_)
    walk_at "wp"
    refine y_inT ["yes", "no", "name"] rfl ?_
    walk_at "wp"
    refine ite_b (fun _ => ?_) (fun c => absurd c (by decide))
    refine w_set (y_if ?_)
    walk_at "wp"
    refine ite_b (fun _ => ?_) (fun c => absurd c (by decide))
    walk_at "wp"
    refine y_negI ?_
    refine y_ix (u := .str w) rfl ?_
    refine WS.mono (loose_end (W := 8) (b := b) (los_word w1 w2 (lo_name hw)) (show 8 + 7 ≤ 17 * 1 by decide) (show 0 + 1 ≤ 2 * 1 by decide) w3 (show 8 + 3 ≤ 25 * 1 by decide) (show 1 ≤ 1000 by decide) t0 (by omega) (Fr.refl [n] S)) (fun _ _ h => h.elim) (fun u S1 h => LoP.up h (by show b + 30 ≤ b + 150 * 1; omega)) (fun _ _ h => h.elim) (fun _ _ h => h.elim) (fun _ _ _ h => h.elim)
  | .neg a, m + 2, b, S, t0, hb, hm, hw, hp => by
    have hb : b + 150 * ((a.parts + 1 : Nat) : Int) ≤ 2 ^ 100 := hb
    have hm : a.deep + 1 + 1 ≤ m + 2 := hm
    have hp : a.parts + 1 ≤ 1000 := hp
    have ha := a.parts_pos
    refine y_run ?_
    show WS (b_law_loose (call (m + 1)) [some (.loc n), some (Say.u (.neg a)), none, none, none, none, none] S) _
    unfold b_law_loose
    walk_at "wp"
    refine y_ix (u := .str "not") rfl ?_
    refine w_seq (w_if ?_)
    walk_at "wp"
    refine y_inT ["yes", "no", "name"] rfl ?_
    walk_at "wp"
    refine ite_b (fun c => absurd c (by decide)) (fun _ => ?_)
    refine w_if ?_
    walk_at "wp"
    refine ite_b (fun _ => ?_) (fun c => absurd c (by decide))
    refine w_set ?_
    walk_at "wp"
    refine ⟨rfl, (draw t0 (by omega) (by first | decide | omega) (by first | decide | omega)).mono ?_⟩; rintro _ S1 ⟨r1, rfl, r10, r11, t1, l1, f1⟩
    refine y_ixL r10 (show r1 < (2 : Int) by omega) fun u hu _ => ?_
    obtain ⟨z, rfl, hz⟩ : ∃ z : Str, u = .str z ∧ (z = "(" ∨ z = " (  ") := by
      simp only [List.mem_cons, List.mem_nil_iff, or_false] at hu
      rcases hu with rfl | rfl
      · exact ⟨_, rfl, .inl rfl⟩
      · exact ⟨_, rfl, .inr rfl⟩
    have hzl : z.length ≤ 4 := by rcases hz with rfl | rfl <;> decide
    walk_at "wp"
    refine y_addS (by rw [sizeL]; show 3 + _ ≤ _; omega) ?_
    walk_at "wp"
    refine y_ix (u := a.u) rfl ?_
    walk_at "wp"
    refine ⟨rfl, (law_loose a (m + 1) t1 (by omega) (by omega) hw (by omega)).mono ?_⟩
    rintro _ S2 ⟨t, ts, rfl, hl, ht, t2, f2⟩
    walk_at "wp"
    refine y_addS (by rw [len_app, sizeL]; show 3 + _ + _ ≤ _; omega) ?_
    walk_at "wp"
    refine y_addS (by rw [len_app, len_app, sizeL]; show 3 + _ + _ + 1 ≤ _; omega) ?_
    refine WS.mono (loose_end (W := 8 + 25 * a.parts) (los_not hz hl) (by show 17 * a.deep + 9 + 7 ≤ 17 * (a.deep + 1); omega) (by show 2 * a.deep + 1 + 1 ≤ 2 * (a.deep + 1); omega) (by rw [len_app, len_app, len_app]; show 3 + _ + _ + 1 ≤ _; omega) (by show _ ≤ 25 * (a.parts + 1); omega) hp t2 (by omega) (f1.trans f2)) (fun _ _ h => h.elim) (fun u S3 h => LoP.up h (by show _ ≤ b + 150 * ((a.parts + 1 : Nat) : Int); omega)) (fun _ _ h => h.elim) (fun _ _ h => h.elim) (fun _ _ _ h => h.elim)
  | .bin o a c, m + 2, b, S, t0, hb, hm, hw, hp => by
    have hb : b + 150 * ((a.parts + c.parts + 1 : Nat) : Int) ≤ 2 ^ 100 := hb
    have hm : max a.deep c.deep + 1 + 1 ≤ m + 2 := hm
    have hp : a.parts + c.parts + 1 ≤ 1000 := hp
    have ha := a.parts_pos
    have hc := c.parts_pos
    refine y_run ?_
    show WS (b_law_loose (call (m + 1)) [some (.loc n), some (.tup [.str o.s, a.u, c.u]), none, none, none, none, none] S) _
    unfold b_law_loose
    walk_at "wp"
    refine y_ix (u := .str o.s) rfl ?_
    refine w_seq (w_if ?_)
    walk_at "wp"
    refine y_inT ["yes", "no", "name"] rfl ?_
    walk_at "wp"
    refine ite_b (fun q => absurd q (by cases o <;> decide)) (fun _ => ?_)
    refine w_if ?_
    walk_at "wp"
    refine ite_b (fun q => absurd q (by cases o <;> decide)) (fun _ => ?_)
    refine w_seq (w_set (Y.of (a := .str (sg o)) (S := S) (by cases o <;> kernel_rfl) ?_))
    refine w_seq (w_set ?_)
    walk_at "wp"
    refine ⟨_, rfl, ?_⟩
    walk_at "wp"
    refine y_slT ?_
    rw [cut_one]
    refine ⟨_, rfl, ?_⟩
    have clo : ∀ {r : Int} {S4 : Sto} {Q : U → Sto → Prop}, 0 ≤ r → r < 2 → (∀ z : Str, (z = ")" ∨ z = " )") → z.length ≤ 2 → Q (.str z) S4) → Y (ixU (.lst [.str ")", .str " )"]) (.int r) S4) Q := fun {r S4 Q} h0 h1 q => y_ixL h0 (show r < (2 : Int) by omega) fun u hu _ => by
      simp only [List.mem_cons, List.mem_nil_iff, or_false] at hu
      rcases hu with rfl | rfl
      · exact q _ (.inl rfl) (by decide)
      · exact q _ (.inr rfl) (by decide)
    refine y_cc (acc := []) rfl (by rw [sizeL]; decide) ?_
    walk_at "wp"
    refine ⟨rfl, (law_loose a (m + 1) t0 (by omega) (by omega) hw.1 (by omega)).mono ?_⟩
    rintro _ S1 ⟨ta, us, rfl, hla, hta, t1, f1⟩
    walk_at "wp"
    refine y_addS (by rw [sizeL]; show 1 + _ ≤ _; omega) ?_
    walk_at "wp"
    refine ⟨rfl, (draw t1 (by omega) (by first | decide | omega) (by first | decide | omega)).mono ?_⟩; rintro _ S2 ⟨r2, rfl, r20, r21, t2, l2, f2⟩
    refine clo r20 r21 fun za hza hzal => ?_
    refine y_addS (by rw [len_app, sizeL]; show 1 + _ + _ ≤ _; omega) ?_
    refine y_cc rfl (by rw [sizeL]; show 1 < _; decide) ?_
    walk_at "wp"
    refine ⟨rfl, (law_loose c (m + 1) t2 (by omega) (by omega) hw.2 (by omega)).mono ?_⟩
    rintro _ S3 ⟨tb, vs, rfl, hlb, htb, t3, f3⟩
    walk_at "wp"
    refine y_addS (by rw [sizeL]; show 1 + _ ≤ _; omega) ?_
    walk_at "wp"
    refine ⟨rfl, (draw t3 (by omega) (by first | decide | omega) (by first | decide | omega)).mono ?_⟩; rintro _ S4 ⟨r4, rfl, r40, r41, t4, l4, f4⟩
    refine clo r40 r41 fun zb hzb hzbl => ?_
    refine y_addS (by rw [len_app, sizeL]; show 1 + _ + _ ≤ _; omega) ?_
    refine y_cn ?_
    have hA : ("(" ++ ta ++ za).length ≤ 25 * a.parts + 3 := by rw [len_app, len_app]; show 1 + _ + _ ≤ _; omega
    have hB : ("(" ++ tb ++ zb).length ≤ 25 * c.parts + 3 := by rw [len_app, len_app]; show 1 + _ + _ ≤ _; omega
    have hso := sg_len o
    refine w_set ?_
    walk_at "wp"
    refine y_ix (u := .str ("(" ++ ta ++ za)) rfl ?_
    walk_at "wp"
    refine ⟨rfl, (draw t4 (by omega) (by first | decide | omega) (by first | decide | omega)).mono ?_⟩; rintro _ S5 ⟨r5, rfl, r50, r51, t5, l5, f5⟩
    refine y_ixL r50 (show r5 < (3 : Int) by omega) fun u hu _ => ?_
    obtain ⟨s1, rfl, hs1⟩ : ∃ z : Str, u = .str z ∧ (z = "" ∨ z = " " ∨ z = "   ") := by
      simp only [List.mem_cons, List.mem_nil_iff, or_false] at hu
      rcases hu with rfl | rfl | rfl
      · exact ⟨_, rfl, .inl rfl⟩
      · exact ⟨_, rfl, .inr (.inl rfl)⟩
      · exact ⟨_, rfl, .inr (.inr rfl)⟩
    have hs1l : s1.length ≤ 3 := by rcases hs1 with rfl | rfl | rfl <;> decide
    walk_at "wp"
    refine y_addS (by rw [sizeL]; omega) ?_
    walk_at "wp"
    refine y_addS (by rw [len_app, sizeL]; omega) ?_
    walk_at "wp"
    refine ⟨rfl, (draw t5 (by omega) (by first | decide | omega) (by first | decide | omega)).mono ?_⟩; rintro _ S6 ⟨r6, rfl, r60, r61, t6, l6, f6⟩
    refine y_ixL r60 (show r6 < (2 : Int) by omega) fun u hu _ => ?_
    obtain ⟨s2, rfl, hs2⟩ : ∃ z : Str, u = .str z ∧ (z = "" ∨ z = "  ") := by
      simp only [List.mem_cons, List.mem_nil_iff, or_false] at hu
      rcases hu with rfl | rfl
      · exact ⟨_, rfl, .inl rfl⟩
      · exact ⟨_, rfl, .inr rfl⟩
    have hs2l : s2.length ≤ 2 := by rcases hs2 with rfl | rfl <;> decide
    refine y_addS (by rw [len_app, len_app, sizeL]; omega) ?_
    walk_at "wp"
    refine y_ix (u := .str ("(" ++ tb ++ zb)) rfl ?_
    refine y_addS (by rw [len_app (("(" ++ ta ++ za) ++ s1 ++ sg o), len_app (("(" ++ ta ++ za) ++ s1), len_app ("(" ++ ta ++ za), sizeL]; omega) ?_
    have L1 : 17 * a.deep + 10 ≤ 17 * max a.deep c.deep + 10 := by omega
    have L2 : 17 * c.deep + 10 ≤ 17 * max a.deep c.deep + 10 := by omega
    refine WS.mono (loose_end (W := 25 * a.parts + 25 * c.parts + 16) (los_bin (op := o) hla hlb hza hzb hs1 hs2 L1 L2 (show 2 * a.deep ≤ 2 * max a.deep c.deep by omega) (show 2 * c.deep ≤ 2 * max a.deep c.deep by omega)) (by show _ ≤ 17 * (max a.deep c.deep + 1); omega) (by show _ ≤ 2 * (max a.deep c.deep + 1); omega) (by rw [len_app (("(" ++ ta ++ za) ++ s1 ++ sg o ++ s2), len_app (("(" ++ ta ++ za) ++ s1 ++ sg o), len_app (("(" ++ ta ++ za) ++ s1), len_app ("(" ++ ta ++ za)]; omega) (by show _ ≤ 25 * (a.parts + c.parts + 1); omega) hp t6 (by omega) (f1.trans (f2.trans (f3.trans (f4.trans (f5.trans f6)))))) (fun _ _ h => h.elim) (fun u S7 h => LoP.up h (by show _ ≤ b + 150 * ((a.parts + c.parts + 1 : Nat) : Int); omega)) (fun _ _ h => h.elim) (fun _ _ h => h.elim) (fun _ _ _ h => h.elim)
theorem w_loopR {gt : U → En → Option En} {g : FS} {D : EU} (n : Nat) (I : Nat → En → Sto → Prop)
    (h : ∀ i d S, i < n → I i d S → ∃ d1, gt (.int (i : Int)) d = some d1 ∧ WS (g d1 S) { D with nx := I (i + 1), ct := I (i + 1), bk := D.nx }) (h0 : ∀ d S, I n d S → D.nx d S) (d : En) (S : Sto) (hi : I 0 d S) : WS (loopF gt g (rngU 0 1 n) d S) D := by
  refine w_loop (fun us d S => ∃ j, j ≤ n ∧ us = ((List.range n).drop j).map (fun (i : Nat) => U.int (0 + (i : Int) * 1)) ∧ I j d S) ?_ ?_ _ _ _ ⟨0, Nat.zero_le _, rfl, hi⟩
  · rintro u us d S ⟨j, hj, e, hI⟩
    have hlt : j < n := by
      refine Nat.lt_of_not_le fun z => ?_
      rw [List.drop_eq_nil_of_le (by rw [List.length_range]; exact z)] at e
      cases e
    rw [List.drop_eq_getElem_cons (by rw [List.length_range]; exact hlt), List.getElem_range, List.map_cons, show (0 : Int) + (j : Int) * 1 = (j : Int) by omega] at e
    injection e with e1 e2
    obtain ⟨d1, g1, hw⟩ := h j d S hlt hI
    refine ⟨d1, by rw [e1]; exact g1, hw.mono ?_ (fun _ _ q => q) (fun _ _ q => q) ?_ (fun _ _ _ q => q)⟩
    · exact fun d2 S2 q => ⟨j + 1, hlt, e2, q⟩
    · exact fun d2 S2 q => ⟨j + 1, hlt, e2, q⟩
  · rintro d S ⟨j, hj, e, hI⟩
    have : j = n := by
      refine Nat.le_antisymm hj (Nat.le_of_not_lt fun z => ?_)
      rw [List.drop_eq_getElem_cons (by rw [List.length_range]; exact z)] at e
      cases e
    subst this
    exact h0 d S hI
theorem w_ifP' {t : FT} {g : FS} {d : En} {S : Sto} {D : EU} (h : Y (t d S) fun b S1 => b = false ∧ D.nx d S1) : WS (fIfS t g fNop d S) D :=
  w_if (h.mono fun b S1 ⟨e, q⟩ => by subst e; exact w_nop q)
theorem repl_one {a : Nat} {z : List Nat} : ∀ l : List Nat, StrLaws.replL [a] z l = l.flatMap fun c => if c = a then z else [c]
  | [] => by rw [StrLaws.replL_nil]; rfl
  | c :: l => by
    rw [List.flatMap_cons]
    by_cases h : c = a
    · rw [if_pos h, StrLaws.replL_hit (y := [a]) (c := c) (r := l) (by simp) (show (c :: l).take 1 = [a] by rw [h]; rfl), ← repl_one l]
      rfl
    · rw [if_neg h, StrLaws.replL_miss (y := [a]) (c := c) (r := l) (fun q => h (by injection (show [c] = [a] from q))), repl_one l]
      rfl
theorem tl_repl {x y z : Str} {a : Nat} (hy : TL.tl y = [a]) (h1 : 1 ≤ y.length) : TL.tl (Txt.replace x y z) = (TL.tl x).flatMap fun c => if c = a then TL.tl z else [c] := by
  rw [← repl_one, ← hy]
  exact StrLaws.replace_list h1
theorem run_rep {a : Nat} {z : List Nat} (h : ∀ st, runC z st = stepC st a) : ∀ (l : List Nat) (st : List Str × Str), runC (l.flatMap fun c => if c = a then z else [c]) st = runC l st
  | [], _ => rfl
  | c :: l, st => by
    rw [List.flatMap_cons, runC_app, run_rep h l]
    show _ = runC l (stepC st c)
    by_cases q : c = a
    · rw [if_pos q, h, q]
    · rw [if_neg q]
      rfl
theorem blank_after {c : Nat} (h : sep3 c) (st : List Str × Str) : stepC (stepC st c) 32 = stepC st c := by
  obtain ⟨F, w⟩ := st
  have e : ∀ (G : List Str) (v : Str), stepC (G, v) c = (flP G v c, ("" : Str)) := fun G v => by
    unfold stepC
    rw [if_neg (by rw [sep_no h]; exact Bool.false_ne_true)]
  rw [e]
  unfold stepC
  rw [if_neg (by decide), fl_empty (.inl rfl)]
  exact congrArg (fun z => (z, ("" : Str))) (List.append_nil _)
theorem bl_run : ∀ z : Str, (z = "  " ∨ z = " " ∨ z = "    ") → ∀ st, runC (TL.tl z) st = stepC st 32 := fun z hz st => by
  rcases hz with rfl | rfl | rfl
  · show stepC (stepC st 32) 32 = _
    exact blank_after sp32 _
  · rfl
  · show stepC (stepC (stepC (stepC st 32) 32) 32) 32 = _
    rw [blank_after sp32, blank_after sp32, blank_after sp32]
theorem op_run : ∀ z : Str, (z = "( " ∨ z = "(") → ∀ st, runC (TL.tl z) st = stepC st 40 := fun z hz st => by
  rcases hz with rfl | rfl
  · show stepC (stepC st 40) 32 = _
    exact blank_after sp40 _
  · rfl
theorem rep_sg {l z : List Nat} {a : Nat} (hl : ∀ c ∈ l, SgC c) (hz : ∀ c ∈ z, SgC c) : ∀ c ∈ l.flatMap (fun c => if c = a then z else [c]), SgC c := fun c hc => by
  obtain ⟨d, hd, h⟩ := List.mem_flatMap.mp hc
  by_cases q : d = a
  · rw [if_pos q] at h; exact hz c h
  · rw [if_neg q] at h
    rw [List.mem_singleton.mp h]
    exact hl d hd
theorem run_blanks (i : Nat) (F : List Str) : runC (List.replicate i 32) (F, "") = (F, ("" : Str)) := by
  induction i with
  | zero => rfl
  | succ i ih =>
    show runC (List.replicate i 32) (stepC (F, "") 32) = _
    have e : stepC (F, "") 32 = (F, ("" : Str)) := by
      unfold stepC
      rw [if_neg (by decide), fl_empty (.inl rfl)]
      exact congrArg (fun z => (z, ("" : Str))) (List.append_nil _)
    rw [e, ih]
theorem y_replS {y : Str} {zs : List Str} {fo fi : FE} {d : En} {S : Sto} {Q : U → Sto → Prop} (h : Y (fo d S) fun v S1 => ∃ x, v = .str x ∧ Y (fi d S1) fun u S2 => ∃ i : Int, u = .int i ∧ 0 ≤ i ∧ i < zs.length ∧ zs.length ≤ 1000 ∧ ∀ z ∈ zs, x.length + (x.length + 1) * z.length ≤ 16777216 ∧ Q (.str (Txt.replace x y z)) S2) : Y (fReplS y zs fo fi d S) Q := y_bind (h.mono fun v S1 ⟨x, e, h1⟩ => by
  subst e
  refine y_bind (h1.mono fun u S2 ⟨i, e, h0, h2, hl, q⟩ => ?_)
  subst e
  have hi : i.toNat < zs.length := by omega
  obtain ⟨q1, q2⟩ := q zs[i.toNat] (List.getElem_mem hi)
  show Y (match zs[i.toNat]? with
    | some z => guard (decide (0 ≤ i) && (decide (i < 2 ^ 63) && decide (x.length + (x.length + 1) * z.length ≤ 16777216))) (R.ok (.str (Txt.replace x y z)) S2)
    | none => .bad) Q
  rw [List.getElem?_eq_getElem hi]
  exact y_guard (by rw [decide_eq_true h0, decide_eq_true (show i < 2 ^ 63 by omega), decide_eq_true q1]; rfl) ⟨q2⟩)
theorem y_mulB {r : Int} {S : Sto} {Q : U → Sto → Prop} (h0 : 0 ≤ r) (h1 : r < 3) (h : ∀ (i : Nat) (z : Str), i ≤ 2 → TL.tl z = List.replicate i 32 → z.length = i → Q (.str z) S) : Y (mulZU (.str " ") (.int r) S) Q := by
  rcases (show r = 0 ∨ r = 1 ∨ r = 2 by omega) with rfl | rfl | rfl
  · exact Y.of (show mulZU (.str " ") (.int 0) S = .ok (.str Str.empty) S from by kernel_rfl) (h 0 _ (by decide) rfl rfl)
  · exact Y.of (show mulZU (.str " ") (.int 1) S = .ok (.str " ") S from by kernel_rfl) (h 1 _ (by decide) rfl rfl)
  · exact Y.of (show mulZU (.str " ") (.int 2) S = .ok (.str "  ") S from by kernel_rfl) (h 2 _ (by decide) rfl rfl)
theorem y_negSame {u : U} {c n : Nat} {S : Sto} {Q : U → Sto → Prop} (p : Pl c n u) (hn : n ≤ 64) (hs : scalU u u = false) (q : Q (.bl false) S) : Y (neU u u S) Q := by
  obtain ⟨d, h1, h2⟩ := Pl.shaped p hn S
  exact y_neSame h1 h1 h2 hs q
theorem cst_24 : cst 24 = 3019898790 := by decide +kernel
theorem cst_8 : cst 8 = 45990 := by decide +kernel
theorem draw_sayN {n d L k : Nat} {c b : Int} {ws : List Str} {S : Sto} (hw0 : 1 ≤ ws.length) (hw1 : ws.length ≤ 1000) (hc : cst d = c) (hd : 1 ≤ d) (t : Tape n b S) (hb : b + c ≤ 2 ^ 100) : Y (call (d + k + 2) i_law_saying [.loc n, .lst (ws.map .str), .loc S.length, .int d] (S ++ [.lst [.int L]])) fun u S' => (∃ x : Say, u = x.u ∧ x.On (· ∈ ws) ∧ x.deep ≤ d ∧ x.parts ≤ L + 1) ∧ Tape n (b + c) S' ∧ Fr [n] S S' := by
  have hnf : n ≠ S.length := by have := t.lt; omega
  have t4 : Tape n b (S ++ [.lst [.int L]]) := t.fr (ms := []) Fr.push (by simp)
  refine (saying (ws := ws) hnf hw0 hw1 d k t4 (by rw [hc]; exact hb) sto_snoc).mono ?_
  rintro _ S5 ⟨x, L', rfl, hx, hxd, -, hL', hxp, t5, f5⟩
  rw [hc] at t5
  have := hL' (by omega)
  refine ⟨⟨x, rfl, hx, by omega, by omega⟩, t5, ?_⟩
  have l0 : (S ++ [Ob.lst [.int L]]).length = S.length + 1 := by rw [List.length_append, List.length_singleton]
  exact ⟨by have := f5.1; omega, fun j hj hn => (f5.2 j (by omega) (by simp at hn ⊢; omega)).trans (List.getElem?_append_left hj)⟩
theorem y_neSay {x : Say} {S : Sto} {Q : U → Sto → Prop} (hd : x.deep ≤ 60) (hw : x.On GW) (q : Q (.bl false) S) : Y (neU x.u x.u S) Q :=
  y_negSame (Say.pl (Say.On.mono (fun w hw => ⟨hw.1.1.ok, by rw [sizeL]; have := hw.1.2.2; omega⟩) hw)) (by omega) (by cases x <;> rfl) q
theorem hrd_say {x : Say} (hd : x.deep ≤ 25) (hp : x.parts ≤ 400) (hw : x.On GW) {S : Sto} {n : Nat} (hn : n < S.length) : RdA S n (tk x) 0 0 198 1 (tk x) x.u := by
  have hL := lev_le x
  have hL2 : (if rk x < 5 then 1 else 8) ≤ 8 := by split <;> omega
  exact (rdx hn x.parts x (Nat.le_refl _) (by omega) hw 0 0 (by show 0 + x.deep + 0 ≤ 51; omega) (by omega)).1 1 198 (by omega) (by omega) (fun _ => rk_pos x) (by show lev x + 1 ≤ _; omega)
set_option maxHeartbeats 8000000 in
theorem law_holds (ns : List Int) (hn : ns.length ≤ 63) : ∃ S', call 200 i_law [.frz (ns.map .int)] [] = .ok (.bl true) S' := by
  suffices h : Y (call 200 i_law [.frz (ns.map .int)] []) fun u _ => u = .bl true by
    obtain ⟨u, S', e, rfl⟩ := h.ok
    exact ⟨S', e⟩
  refine y_run ?_
  show WS (b_law (call 199) [some (.frz (ns.map .int)), none, none, none, none, none, none, none, none] []) _
  unfold b_law
  refine w_seq (w_set ?_)
  walk_at "wp"
  refine ⟨rfl, (tape (k := 198) ns hn []).mono ?_⟩
  rintro _ S0 ⟨rfl, t0, -⟩
  generalize List.length ([] : Sto) = n at t0 ⊢
  refine w_seq (w_set ?_)
  walk_at "wp"
  refine ⟨rfl, (words (k := 197) (m := 8) t0 (by decide) (by decide)).mono ?_⟩
  rintro _ S1 ⟨ws, rfl, hws, hww, hnd, t1, f1⟩
  have hw8 : ws.length = 8 := by exact_mod_cast hws
  refine w_seq (w_for ?_)
  walk_at "wp"
  refine ⟨6, rfl, by decide, by decide, ?_⟩
  refine w_loopR 6 (fun i d S2 => ∃ (x3 x4 x5 x6 x7 x8 : Option U), d = [some (.frz (ns.map .int)), some (.loc n), some (.lst (ws.map .str)), x3, x4, x5, x6, x7, x8] ∧ Tape n (2000 + 4000000000 * (i : Int)) S2) ?_ ?_ _ _ ⟨_, _, _, _, _, _, rfl, t1.mono (by decide)⟩
  · rintro i d S2 hi ⟨x3, x4, x5, x6, x7, x8, rfl, t2⟩
    refine ⟨_, rfl, ?_⟩
    refine w_seq (w_set ?_)
    walk_at "wp"
    refine ⟨rfl, (draw t2 (by omega) (by first | decide | omega) (by first | decide | omega)).mono ?_⟩; rintro _ S3 ⟨r3, rfl, r30, r31, t3, l3, f3⟩
    refine y_ixL r30 (show r3 < (3 : Int) by omega) fun u hu _ => ?_
    obtain ⟨L, rfl, hL⟩ : ∃ L : Nat, u = .int (L : Int) ∧ L ≤ 120 := by
      simp only [List.mem_cons, List.mem_nil_iff, or_false] at hu
      rcases hu with rfl | rfl | rfl
      · exact ⟨6, rfl, by decide⟩
      · exact ⟨30, rfl, by decide⟩
      · exact ⟨120, rfl, by decide⟩
    walk_at "wp"
    refine ⟨rfl, (draw_sayN (L := L) (d := 24) (k := 173) (by omega) (by omega) cst_24 (by decide) t3 (by omega)).mono ?_⟩
    rintro _ S4 ⟨⟨x, rfl, hx, hxd, hxp⟩, t4, f4⟩
    have hgw : x.On GW := Say.On.mono (fun w hw => hww w hw) hx
    have hwl : x.On WordL := Say.On.mono (fun w hw => hw.1) hgw
    have hfew : x.On Few8 := Say.On.mono (fun w hw => ⟨hw.2.2, fun c hc => by have := hw.1 c hc; omega⟩) hwl
    have hdp := x.deep_pos
    have hxl := shw_len hwl
    have hsg := sgc_say hwl
    have hrun := run_say hwl
    refine w_seq (w_set ?_)
    walk_at "wp"
    refine ⟨rfl, (law_text x 199 (by omega) (by omega) hwl).mono ?_⟩
    rintro _ S5 ⟨rfl, hS⟩
    have hS := hS.symm
    subst hS
    -- told twice
    refine w_seq (w_for ?_)
    walk_at "wp"
    refine ⟨2, rfl, by decide, by decide, ?_⟩
    refine w_loopR 2 (fun j d S5 => ∃ y6 : Option U, d = [some (.frz (ns.map .int)), some (.loc n), some (.lst (ws.map .str)), some (.int (i : Int)), some x.u, some (.str (shw x)), y6, x7, x8] ∧ Fr [] S4 S5) ?_ ?_ _ _ ⟨_, rfl, Fr.refl _ _⟩
    · rintro j d S5 hj ⟨y6, rfl, f5⟩
      refine ⟨_, rfl, ?_⟩
      refine w_ifP' ?_
      walk_at "wp"
      refine ⟨rfl, (show_saying x 199 (by omega) (by omega) hwl).mono ?_⟩
      rintro _ _ ⟨rfl, rfl⟩
      walk_at "wp"
      rw [decide_eq_true rfl]
      refine ite_b (fun z => by cases z) (fun _ => ?_)
      walk_at "wp"
      refine ⟨rfl, (read_sayingT (k := 198) (x := x) (by omega) (by omega) (by omega) hgw (by omega) hsg hrun (hrd_say (by omega) (by omega) hgw)).mono ?_⟩
      rintro _ S6 ⟨rfl, f6⟩
      walk_at "wp"
      refine y_reprD (by omega) (by omega) hfew ?_
      walk_at "wp"
      refine y_reprD (by omega) (by omega) hfew ?_
      walk_at "wp"
      rw [decide_eq_true rfl]
      refine ⟨rfl, ?_⟩
      exact ⟨_, rfl, f5.trans f6⟩
    rintro d S5 ⟨y6, rfl, f5⟩
    have t5 := t4.fr f5 (by simp)
    -- with more blanks
    have hlx : (shw x).length ≤ 2500 := by omega
    refine w_seq (w_set (y_replS (y_var rfl ⟨_, rfl, ?_⟩)))
    walk_at "wp"
    refine ⟨rfl, (draw t5 (by omega) (by decide) (by decide)).mono ?_⟩
    rintro _ S6 ⟨r6, rfl, r60, r61, t6, l6, f6⟩
    refine ⟨r6, rfl, r60, r61, by decide, fun z hz => ?_⟩
    have hz : z = "  " ∨ z = " " ∨ z = "    " := by simpa using hz
    have hzl : z.length ≤ 4 := by rcases hz with rfl | rfl | rfl <;> decide
    have hzs : ∀ c ∈ TL.tl z, SgC c := by rcases hz with rfl | rfl | rfl <;> (unfold SgC sep3; decide +kernel)
    have hm1 : ((shw x).length + 1) * z.length ≤ 2501 * 4 := Nat.mul_le_mul (by omega) hzl
    have l1 := TK.replace_len (shw x) " " z
    have e1 := tl_repl (x := shw x) (y := " ") (z := z) (a := 32) rfl (by decide)
    refine ⟨by omega, ?_⟩
    have g1 : ∀ c ∈ TL.tl (Txt.replace (shw x) " " z), SgC c := by rw [e1]; exact rep_sg hsg hzs
    have u1 : ∀ st, runC (TL.tl (Txt.replace (shw x) " " z)) st = runC (TL.tl (shw x)) st := fun st => by rw [e1, run_rep (bl_run z hz)]
    generalize Txt.replace (shw x) " " z = M at l1 g1 u1 ⊢
    clear e1
    refine w_seq (w_set (y_replS (y_var rfl ⟨_, rfl, ?_⟩)))
    walk_at "wp"
    refine ⟨rfl, (draw t6 (by omega) (by decide) (by decide)).mono ?_⟩
    rintro _ S7 ⟨r7, rfl, r70, r71, t7, l7, f7⟩
    refine ⟨r7, rfl, r70, r71, by decide, fun z2 hz2 => ?_⟩
    have hz2 : z2 = "( " ∨ z2 = "(" := by simpa using hz2
    have hzl2 : z2.length ≤ 2 := by rcases hz2 with rfl | rfl <;> decide
    have hzs2 : ∀ c ∈ TL.tl z2, SgC c := by rcases hz2 with rfl | rfl <;> (unfold SgC sep3; decide +kernel)
    have hm2 : (M.length + 1) * z2.length ≤ 12505 * 2 := Nat.mul_le_mul (by omega) hzl2
    have l2 := TK.replace_len M "(" z2
    have e2 := tl_repl (x := M) (y := "(") (z := z2) (a := 40) rfl (by decide)
    refine ⟨by omega, ?_⟩
    have g2 : ∀ c ∈ TL.tl (Txt.replace M "(" z2), SgC c := by rw [e2]; exact rep_sg g1 hzs2
    have u2 : ∀ st, runC (TL.tl (Txt.replace M "(" z2)) st = runC (TL.tl (shw x)) st := fun st => by rw [e2, run_rep (op_run z2 hz2), u1]
    generalize Txt.replace M "(" z2 = N at l2 g2 u2 ⊢
    clear e2
    -- a small one
    refine w_seq (w_set ?_)
    walk_at "wp"
    refine ⟨rfl, (draw_sayN (L := 14) (d := 8) (k := 189) (by omega) (by omega) cst_8 (by decide) t7 (by omega)).mono ?_⟩
    rintro _ S8 ⟨⟨y, rfl, hy, hyd, hyp⟩, t8, f8⟩
    have hgy : y.On GW := Say.On.mono (fun w hw => hww w hw) hy
    -- read with more blanks
    refine w_seq (w_ifP' ?_)
    walk_at "wp"
    refine ⟨rfl, (draw t8 (by omega) (by decide) (by decide)).mono ?_⟩
    rintro _ S9 ⟨r9, rfl, r90, r91, t9, l9, f9⟩
    refine y_mulB r90 r91 fun j zb hj hzb hzbl => ?_
    walk_at "wp"
    refine y_addS (by rw [sizeL]; omega) ?_
    walk_at "wp"
    refine y_addS (by rw [len_app, sizeL]; show _ + _ + 1 ≤ _; omega) ?_
    have sgb : ∀ c ∈ TL.tl (zb ++ N ++ " "), SgC c := fun c hc => by
      rw [TL.tl_append, TL.tl_append, hzb] at hc
      rcases List.mem_append.mp hc with hc | hc
      · rcases List.mem_append.mp hc with hc | hc
        · rw [List.eq_of_mem_replicate hc]; exact .inr (.inl rfl)
        · exact g2 c hc
      · rw [List.mem_singleton.mp (show c ∈ [32] from hc)]; exact .inr (.inl rfl)
    have rnb : runC (TL.tl (zb ++ N ++ " ") ++ [32]) ([], "") = (tk x, ("" : Str)) := by
      rw [TL.tl_append, TL.tl_append, hzb, runC_app, runC_app, runC_app, run_blanks, u2]
      show stepC (stepC (runC (TL.tl (shw x)) ([], "")) 32) 32 = _
      rw [blank_after sp32]
      have := hrun
      rw [runC_app] at this
      exact this
    walk_at "wp"
    refine ⟨rfl, (read_sayingT (k := 198) (x := x) (by omega) (by omega) (by omega) hgw (by rw [len_app, len_app]; show _ + _ + 1 ≤ _; omega) sgb rnb (hrd_say (by omega) (by omega) hgw)).mono ?_⟩
    rintro _ S10 ⟨rfl, f10⟩
    walk_at "wp"
    refine y_neSay (by omega) hgw ?_
    walk_at "wp"
    refine ⟨rfl, ?_⟩
    have t10 := t9.fr f10 (by simp)
    -- with more brackets
    refine w_ifP' ?_
    walk_at "wp"
    refine ⟨rfl, (law_loose y 199 t10 (by omega) (by omega) hgy (by omega)).mono ?_⟩
    rintro _ S11 ⟨t, ts, rfl, hlo, htl, t11, f11⟩
    walk_at "wp"
    have rnl : runC (TL.tl t ++ [32]) ([], "") = (ts, ("" : Str)) := by
      rw [runC_app]
      show stepC (runC (TL.tl t) ([], "")) 32 = _
      rw [hlo.good [] 32 sp32]
      exact congrArg (fun z => (z, ("" : Str))) ((List.append_nil _).trans (List.nil_append _))
    refine ⟨rfl, (read_sayingT (k := 198) (x := y) (by omega) (by omega) (by omega) hgy (by omega) hlo.sg rnl (fun hn => hlo.lo hn 0 0 (by omega) (by omega) 198 (by omega))).mono ?_⟩
    rintro _ S12 ⟨rfl, f12⟩
    walk_at "wp"
    refine y_neSay (by omega) hgy ?_
    walk_at "wp"
    refine ⟨rfl, ?_⟩
    exact ⟨_, _, _, _, _, _, rfl, (t11.fr f12 (by simp)).mono (by omega)⟩
  · rintro d S2 ⟨x3, x4, x5, x6, x7, x8, rfl, t2⟩
    walk_at "wp"
    rfl
set_option maxHeartbeats 8000000 in
theorem all_mk {w : World} {K : PySem.W.Frag} {h : Heap} {mg : Str → Option Value} {fa : Addr} (X : K.In h) (G : h.Ns mainGlobals mg) (hfa : mg "law" = some (.ref fa))
    {x_is_word : Addr} {od_is_word an_is_word : Option Addr} {sl_is_word : Array (Option Value)} {oc_is_word kV_is_word dc_is_word pm_is_word cd_is_word ct_is_word : Value}
    {x_parts_in : Addr} {od_parts_in an_parts_in : Option Addr} {sl_parts_in : Array (Option Value)} {oc_parts_in kV_parts_in dc_parts_in pm_parts_in cd_parts_in ct_parts_in : Value}
    {x_is_saying : Addr} {od_is_saying an_is_saying : Option Addr} {sl_is_saying : Array (Option Value)} {oc_is_saying kV_is_saying dc_is_saying pm_is_saying cd_is_saying ct_is_saying : Value}
    {x_in_brackets : Addr} {od_in_brackets an_in_brackets : Option Addr} {sl_in_brackets : Array (Option Value)} {oc_in_brackets kV_in_brackets dc_in_brackets pm_in_brackets cd_in_brackets ct_in_brackets : Value}
    {x_show_saying : Addr} {od_show_saying an_show_saying : Option Addr} {sl_show_saying : Array (Option Value)} {oc_show_saying kV_show_saying dc_show_saying pm_show_saying cd_show_saying ct_show_saying : Value}
    {x_pieces_of : Addr} {od_pieces_of an_pieces_of : Option Addr} {sl_pieces_of : Array (Option Value)} {oc_pieces_of kV_pieces_of dc_pieces_of pm_pieces_of cd_pieces_of ct_pieces_of : Value}
    {x_read_saying : Addr} {od_read_saying an_read_saying : Option Addr} {sl_read_saying : Array (Option Value)} {oc_read_saying kV_read_saying dc_read_saying pm_read_saying cd_read_saying ct_read_saying : Value}
    {x__law_tape : Addr} {od__law_tape an__law_tape : Option Addr} {sl__law_tape : Array (Option Value)} {oc__law_tape kV__law_tape dc__law_tape pm__law_tape cd__law_tape ct__law_tape : Value}
    {x__law_draw : Addr} {od__law_draw an__law_draw : Option Addr} {sl__law_draw : Array (Option Value)} {oc__law_draw kV__law_draw dc__law_draw pm__law_draw cd__law_draw ct__law_draw : Value}
    {x__law_words : Addr} {od__law_words an__law_words : Option Addr} {sl__law_words : Array (Option Value)} {oc__law_words kV__law_words dc__law_words pm__law_words cd__law_words ct__law_words : Value}
    {x__law_saying : Addr} {od__law_saying an__law_saying : Option Addr} {sl__law_saying : Array (Option Value)} {oc__law_saying kV__law_saying dc__law_saying pm__law_saying cd__law_saying ct__law_saying : Value}
    {x__law_rank : Addr} {od__law_rank an__law_rank : Option Addr} {sl__law_rank : Array (Option Value)} {oc__law_rank kV__law_rank dc__law_rank pm__law_rank cd__law_rank ct__law_rank : Value}
    {x__law_text : Addr} {od__law_text an__law_text : Option Addr} {sl__law_text : Array (Option Value)} {oc__law_text kV__law_text dc__law_text pm__law_text cd__law_text ct__law_text : Value}
    {x__law_loose : Addr} {od__law_loose an__law_loose : Option Addr} {sl__law_loose : Array (Option Value)} {oc__law_loose kV__law_loose dc__law_loose pm__law_loose cd__law_loose ct__law_loose : Value}
    {x_law : Addr} {od_law an_law : Option Addr} {sl_law : Array (Option Value)} {oc_law kV_law dc_law pm_law cd_law ct_law : Value}
    {x_Reader : Addr}
    {x_Reader___init__ : Addr} {od_Reader___init__ an_Reader___init__ : Option Addr} {sl_Reader___init__ : Array (Option Value)} {oc_Reader___init__ kV_Reader___init__ dc_Reader___init__ pm_Reader___init__ cd_Reader___init__ ct_Reader___init__ : Value}
    {x_Reader_now : Addr} {od_Reader_now an_Reader_now : Option Addr} {sl_Reader_now : Array (Option Value)} {oc_Reader_now kV_Reader_now dc_Reader_now pm_Reader_now cd_Reader_now ct_Reader_now : Value}
    {x_Reader_taken : Addr} {od_Reader_taken an_Reader_taken : Option Addr} {sl_Reader_taken : Array (Option Value)} {oc_Reader_taken kV_Reader_taken dc_Reader_taken pm_Reader_taken cd_Reader_taken ct_Reader_taken : Value}
    {x_Reader_refuse : Addr} {od_Reader_refuse an_Reader_refuse : Option Addr} {sl_Reader_refuse : Array (Option Value)} {oc_Reader_refuse kV_Reader_refuse dc_Reader_refuse pm_Reader_refuse cd_Reader_refuse ct_Reader_refuse : Value}
    {x_Reader_single : Addr} {od_Reader_single an_Reader_single : Option Addr} {sl_Reader_single : Array (Option Value)} {oc_Reader_single kV_Reader_single dc_Reader_single pm_Reader_single cd_Reader_single ct_Reader_single : Value}
    {x_Reader_denial : Addr} {od_Reader_denial an_Reader_denial : Option Addr} {sl_Reader_denial : Array (Option Value)} {oc_Reader_denial kV_Reader_denial dc_Reader_denial pm_Reader_denial cd_Reader_denial ct_Reader_denial : Value}
    {x_Reader_bracketed : Addr} {od_Reader_bracketed an_Reader_bracketed : Option Addr} {sl_Reader_bracketed : Array (Option Value)} {oc_Reader_bracketed kV_Reader_bracketed dc_Reader_bracketed pm_Reader_bracketed cd_Reader_bracketed ct_Reader_bracketed : Value}
    {x_Reader_of_rank : Addr} {od_Reader_of_rank an_Reader_of_rank : Option Addr} {sl_Reader_of_rank : Array (Option Value)} {oc_Reader_of_rank kV_Reader_of_rank dc_Reader_of_rank pm_Reader_of_rank cd_Reader_of_rank ct_Reader_of_rank : Value}
    {x_DEEPEST : Tok}
    {x_LETTERS : Tok}
    {x_LONGEST_WORD : Tok}
    {x_MANY : Addr} {es_MANY : List DictEntry} {n_MANY : Nat}
    {x_MOST_OPEN : Tok}
    {x_MOST_PARTS : Tok}
    {x_RANKS : Addr} {es_RANKS : List DictEntry} {n_RANKS : Nat}
    {x_SIGNS : Addr} {es_SIGNS : List DictEntry} {n_SIGNS : Nat}
    {x_WORDS : Addr} {es_WORDS : List DictEntry} {n_WORDS : Nat}
    {x_WORDS_OF_TEXTS : Addr} {o_WORDS_OF_TEXTS : Obj} {its_WORDS_OF_TEXTS : Array Value} {n_WORDS_OF_TEXTS : Nat}
    {x_NoText xi_NoText : Addr} {nm_NoText qn_NoText : Str} {N_NoText : Addr} {bs_NoText : List Value} {sn_NoText : List Str} {sb_NoText : List Value} {ab_NoText : Bool} {cl_NoText : Option Bool} {dd_NoText : Option Addr} {q0_NoText q1_NoText q2_NoText q3_NoText q5_NoText : Option Value} {od_NoText an_NoText : Option Addr} {sl_NoText : Array (Option Value)} {oc_NoText kV_NoText dc_NoText pm_NoText cd_NoText ct_NoText : Value}
    (a_is_word : PySem.W.nsIn K mainGlobals "is_word" = some (some (.ref x_is_word)))
    (l_is_word : K.lookup x_is_word = some ⟨oc_is_word, od_is_word, .func (PySem.W.fnOf "is_word" "is_word" (defArgs s_is_word) (defBody s_is_word) (defScope s_is_word) .none kV_is_word dc_is_word pm_is_word an_is_word cd_is_word ct_is_word), sl_is_word⟩)
    (c_is_word : PySem.W.codeIn K cd_is_word "is_word" = true)
    (k_is_word : PySem.W.keepIn K (.ref x_is_word) = true)
    (a_parts_in : PySem.W.nsIn K mainGlobals "parts_in" = some (some (.ref x_parts_in)))
    (l_parts_in : K.lookup x_parts_in = some ⟨oc_parts_in, od_parts_in, .func (PySem.W.fnOf "parts_in" "parts_in" (defArgs s_parts_in) (defBody s_parts_in) (defScope s_parts_in) .none kV_parts_in dc_parts_in pm_parts_in an_parts_in cd_parts_in ct_parts_in), sl_parts_in⟩)
    (c_parts_in : PySem.W.codeIn K cd_parts_in "parts_in" = true)
    (k_parts_in : PySem.W.keepIn K (.ref x_parts_in) = true)
    (a_is_saying : PySem.W.nsIn K mainGlobals "is_saying" = some (some (.ref x_is_saying)))
    (l_is_saying : K.lookup x_is_saying = some ⟨oc_is_saying, od_is_saying, .func (PySem.W.fnOf "is_saying" "is_saying" (defArgs s_is_saying) (defBody s_is_saying) (defScope s_is_saying) .none kV_is_saying dc_is_saying pm_is_saying an_is_saying cd_is_saying ct_is_saying), sl_is_saying⟩)
    (c_is_saying : PySem.W.codeIn K cd_is_saying "is_saying" = true)
    (k_is_saying : PySem.W.keepIn K (.ref x_is_saying) = true)
    (a_in_brackets : PySem.W.nsIn K mainGlobals "in_brackets" = some (some (.ref x_in_brackets)))
    (l_in_brackets : K.lookup x_in_brackets = some ⟨oc_in_brackets, od_in_brackets, .func (PySem.W.fnOf "in_brackets" "in_brackets" (defArgs s_in_brackets) (defBody s_in_brackets) (defScope s_in_brackets) .none kV_in_brackets dc_in_brackets pm_in_brackets an_in_brackets cd_in_brackets ct_in_brackets), sl_in_brackets⟩)
    (c_in_brackets : PySem.W.codeIn K cd_in_brackets "in_brackets" = true)
    (k_in_brackets : PySem.W.keepIn K (.ref x_in_brackets) = true)
    (a_show_saying : PySem.W.nsIn K mainGlobals "show_saying" = some (some (.ref x_show_saying)))
    (l_show_saying : K.lookup x_show_saying = some ⟨oc_show_saying, od_show_saying, .func (PySem.W.fnOf "show_saying" "show_saying" (defArgs s_show_saying) (defBody s_show_saying) (defScope s_show_saying) .none kV_show_saying dc_show_saying pm_show_saying an_show_saying cd_show_saying ct_show_saying), sl_show_saying⟩)
    (c_show_saying : PySem.W.codeIn K cd_show_saying "show_saying" = true)
    (k_show_saying : PySem.W.keepIn K (.ref x_show_saying) = true)
    (a_pieces_of : PySem.W.nsIn K mainGlobals "pieces_of" = some (some (.ref x_pieces_of)))
    (l_pieces_of : K.lookup x_pieces_of = some ⟨oc_pieces_of, od_pieces_of, .func (PySem.W.fnOf "pieces_of" "pieces_of" (defArgs s_pieces_of) (defBody s_pieces_of) (defScope s_pieces_of) .none kV_pieces_of dc_pieces_of pm_pieces_of an_pieces_of cd_pieces_of ct_pieces_of), sl_pieces_of⟩)
    (c_pieces_of : PySem.W.codeIn K cd_pieces_of "pieces_of" = true)
    (k_pieces_of : PySem.W.keepIn K (.ref x_pieces_of) = true)
    (a_read_saying : PySem.W.nsIn K mainGlobals "read_saying" = some (some (.ref x_read_saying)))
    (l_read_saying : K.lookup x_read_saying = some ⟨oc_read_saying, od_read_saying, .func (PySem.W.fnOf "read_saying" "read_saying" (defArgs s_read_saying) (defBody s_read_saying) (defScope s_read_saying) .none kV_read_saying dc_read_saying pm_read_saying an_read_saying cd_read_saying ct_read_saying), sl_read_saying⟩)
    (c_read_saying : PySem.W.codeIn K cd_read_saying "read_saying" = true)
    (k_read_saying : PySem.W.keepIn K (.ref x_read_saying) = true)
    (a__law_tape : PySem.W.nsIn K mainGlobals "_law_tape" = some (some (.ref x__law_tape)))
    (l__law_tape : K.lookup x__law_tape = some ⟨oc__law_tape, od__law_tape, .func (PySem.W.fnOf "_law_tape" "_law_tape" (defArgs s_law_tape) (defBody s_law_tape) (defScope s_law_tape) .none kV__law_tape dc__law_tape pm__law_tape an__law_tape cd__law_tape ct__law_tape), sl__law_tape⟩)
    (c__law_tape : PySem.W.codeIn K cd__law_tape "_law_tape" = true)
    (k__law_tape : PySem.W.keepIn K (.ref x__law_tape) = true)
    (a__law_draw : PySem.W.nsIn K mainGlobals "_law_draw" = some (some (.ref x__law_draw)))
    (l__law_draw : K.lookup x__law_draw = some ⟨oc__law_draw, od__law_draw, .func (PySem.W.fnOf "_law_draw" "_law_draw" (defArgs s_law_draw) (defBody s_law_draw) (defScope s_law_draw) .none kV__law_draw dc__law_draw pm__law_draw an__law_draw cd__law_draw ct__law_draw), sl__law_draw⟩)
    (c__law_draw : PySem.W.codeIn K cd__law_draw "_law_draw" = true)
    (k__law_draw : PySem.W.keepIn K (.ref x__law_draw) = true)
    (a__law_words : PySem.W.nsIn K mainGlobals "_law_words" = some (some (.ref x__law_words)))
    (l__law_words : K.lookup x__law_words = some ⟨oc__law_words, od__law_words, .func (PySem.W.fnOf "_law_words" "_law_words" (defArgs s_law_words) (defBody s_law_words) (defScope s_law_words) .none kV__law_words dc__law_words pm__law_words an__law_words cd__law_words ct__law_words), sl__law_words⟩)
    (c__law_words : PySem.W.codeIn K cd__law_words "_law_words" = true)
    (k__law_words : PySem.W.keepIn K (.ref x__law_words) = true)
    (a__law_saying : PySem.W.nsIn K mainGlobals "_law_saying" = some (some (.ref x__law_saying)))
    (l__law_saying : K.lookup x__law_saying = some ⟨oc__law_saying, od__law_saying, .func (PySem.W.fnOf "_law_saying" "_law_saying" (defArgs s_law_saying) (defBody s_law_saying) (defScope s_law_saying) .none kV__law_saying dc__law_saying pm__law_saying an__law_saying cd__law_saying ct__law_saying), sl__law_saying⟩)
    (c__law_saying : PySem.W.codeIn K cd__law_saying "_law_saying" = true)
    (k__law_saying : PySem.W.keepIn K (.ref x__law_saying) = true)
    (a__law_rank : PySem.W.nsIn K mainGlobals "_law_rank" = some (some (.ref x__law_rank)))
    (l__law_rank : K.lookup x__law_rank = some ⟨oc__law_rank, od__law_rank, .func (PySem.W.fnOf "_law_rank" "_law_rank" (defArgs s_law_rank) (defBody s_law_rank) (defScope s_law_rank) .none kV__law_rank dc__law_rank pm__law_rank an__law_rank cd__law_rank ct__law_rank), sl__law_rank⟩)
    (c__law_rank : PySem.W.codeIn K cd__law_rank "_law_rank" = true)
    (k__law_rank : PySem.W.keepIn K (.ref x__law_rank) = true)
    (a__law_text : PySem.W.nsIn K mainGlobals "_law_text" = some (some (.ref x__law_text)))
    (l__law_text : K.lookup x__law_text = some ⟨oc__law_text, od__law_text, .func (PySem.W.fnOf "_law_text" "_law_text" (defArgs s_law_text) (defBody s_law_text) (defScope s_law_text) .none kV__law_text dc__law_text pm__law_text an__law_text cd__law_text ct__law_text), sl__law_text⟩)
    (c__law_text : PySem.W.codeIn K cd__law_text "_law_text" = true)
    (k__law_text : PySem.W.keepIn K (.ref x__law_text) = true)
    (a__law_loose : PySem.W.nsIn K mainGlobals "_law_loose" = some (some (.ref x__law_loose)))
    (l__law_loose : K.lookup x__law_loose = some ⟨oc__law_loose, od__law_loose, .func (PySem.W.fnOf "_law_loose" "_law_loose" (defArgs s_law_loose) (defBody s_law_loose) (defScope s_law_loose) .none kV__law_loose dc__law_loose pm__law_loose an__law_loose cd__law_loose ct__law_loose), sl__law_loose⟩)
    (c__law_loose : PySem.W.codeIn K cd__law_loose "_law_loose" = true)
    (k__law_loose : PySem.W.keepIn K (.ref x__law_loose) = true)
    (a_law : PySem.W.nsIn K mainGlobals "law" = some (some (.ref x_law)))
    (l_law : K.lookup x_law = some ⟨oc_law, od_law, .func (PySem.W.fnOf "law" "law" (defArgs s_law) (defBody s_law) (defScope s_law) .none kV_law dc_law pm_law an_law cd_law ct_law), sl_law⟩)
    (c_law : PySem.W.codeIn K cd_law "law" = true)
    (k_law : PySem.W.keepIn K (.ref x_law) = true)
    (a_Reader : PySem.W.nsIn K mainGlobals "Reader" = some (some (.ref x_Reader)))
    (a_Reader___init__ : PySem.W.findIn K (.ref x_Reader) "__init__" = some (some (.ref x_Reader___init__)))
    (l_Reader___init__ : K.lookup x_Reader___init__ = some ⟨oc_Reader___init__, od_Reader___init__, .func (PySem.W.fnOf "__init__" "Reader.__init__" (defArgs s_Reader___init__) (defBody s_Reader___init__) (defScope s_Reader___init__) .none kV_Reader___init__ dc_Reader___init__ pm_Reader___init__ an_Reader___init__ cd_Reader___init__ ct_Reader___init__), sl_Reader___init__⟩)
    (c_Reader___init__ : PySem.W.codeIn K cd_Reader___init__ "Reader.__init__" = true)
    (k_Reader___init__ : PySem.W.keepIn K (.ref x_Reader___init__) = true)
    (f_Reader___init__ : PySem.W.isFn K (.ref x_Reader___init__) = true)
    (a_Reader_now : PySem.W.findIn K (.ref x_Reader) "now" = some (some (.ref x_Reader_now)))
    (l_Reader_now : K.lookup x_Reader_now = some ⟨oc_Reader_now, od_Reader_now, .func (PySem.W.fnOf "now" "Reader.now" (defArgs s_Reader_now) (defBody s_Reader_now) (defScope s_Reader_now) .none kV_Reader_now dc_Reader_now pm_Reader_now an_Reader_now cd_Reader_now ct_Reader_now), sl_Reader_now⟩)
    (c_Reader_now : PySem.W.codeIn K cd_Reader_now "Reader.now" = true)
    (k_Reader_now : PySem.W.keepIn K (.ref x_Reader_now) = true)
    (f_Reader_now : PySem.W.isFn K (.ref x_Reader_now) = true)
    (a_Reader_taken : PySem.W.findIn K (.ref x_Reader) "taken" = some (some (.ref x_Reader_taken)))
    (l_Reader_taken : K.lookup x_Reader_taken = some ⟨oc_Reader_taken, od_Reader_taken, .func (PySem.W.fnOf "taken" "Reader.taken" (defArgs s_Reader_taken) (defBody s_Reader_taken) (defScope s_Reader_taken) .none kV_Reader_taken dc_Reader_taken pm_Reader_taken an_Reader_taken cd_Reader_taken ct_Reader_taken), sl_Reader_taken⟩)
    (c_Reader_taken : PySem.W.codeIn K cd_Reader_taken "Reader.taken" = true)
    (k_Reader_taken : PySem.W.keepIn K (.ref x_Reader_taken) = true)
    (f_Reader_taken : PySem.W.isFn K (.ref x_Reader_taken) = true)
    (a_Reader_refuse : PySem.W.findIn K (.ref x_Reader) "refuse" = some (some (.ref x_Reader_refuse)))
    (l_Reader_refuse : K.lookup x_Reader_refuse = some ⟨oc_Reader_refuse, od_Reader_refuse, .func (PySem.W.fnOf "refuse" "Reader.refuse" (defArgs s_Reader_refuse) (defBody s_Reader_refuse) (defScope s_Reader_refuse) .none kV_Reader_refuse dc_Reader_refuse pm_Reader_refuse an_Reader_refuse cd_Reader_refuse ct_Reader_refuse), sl_Reader_refuse⟩)
    (c_Reader_refuse : PySem.W.codeIn K cd_Reader_refuse "Reader.refuse" = true)
    (k_Reader_refuse : PySem.W.keepIn K (.ref x_Reader_refuse) = true)
    (f_Reader_refuse : PySem.W.isFn K (.ref x_Reader_refuse) = true)
    (a_Reader_single : PySem.W.findIn K (.ref x_Reader) "single" = some (some (.ref x_Reader_single)))
    (l_Reader_single : K.lookup x_Reader_single = some ⟨oc_Reader_single, od_Reader_single, .func (PySem.W.fnOf "single" "Reader.single" (defArgs s_Reader_single) (defBody s_Reader_single) (defScope s_Reader_single) .none kV_Reader_single dc_Reader_single pm_Reader_single an_Reader_single cd_Reader_single ct_Reader_single), sl_Reader_single⟩)
    (c_Reader_single : PySem.W.codeIn K cd_Reader_single "Reader.single" = true)
    (k_Reader_single : PySem.W.keepIn K (.ref x_Reader_single) = true)
    (f_Reader_single : PySem.W.isFn K (.ref x_Reader_single) = true)
    (a_Reader_denial : PySem.W.findIn K (.ref x_Reader) "denial" = some (some (.ref x_Reader_denial)))
    (l_Reader_denial : K.lookup x_Reader_denial = some ⟨oc_Reader_denial, od_Reader_denial, .func (PySem.W.fnOf "denial" "Reader.denial" (defArgs s_Reader_denial) (defBody s_Reader_denial) (defScope s_Reader_denial) .none kV_Reader_denial dc_Reader_denial pm_Reader_denial an_Reader_denial cd_Reader_denial ct_Reader_denial), sl_Reader_denial⟩)
    (c_Reader_denial : PySem.W.codeIn K cd_Reader_denial "Reader.denial" = true)
    (k_Reader_denial : PySem.W.keepIn K (.ref x_Reader_denial) = true)
    (f_Reader_denial : PySem.W.isFn K (.ref x_Reader_denial) = true)
    (a_Reader_bracketed : PySem.W.findIn K (.ref x_Reader) "bracketed" = some (some (.ref x_Reader_bracketed)))
    (l_Reader_bracketed : K.lookup x_Reader_bracketed = some ⟨oc_Reader_bracketed, od_Reader_bracketed, .func (PySem.W.fnOf "bracketed" "Reader.bracketed" (defArgs s_Reader_bracketed) (defBody s_Reader_bracketed) (defScope s_Reader_bracketed) .none kV_Reader_bracketed dc_Reader_bracketed pm_Reader_bracketed an_Reader_bracketed cd_Reader_bracketed ct_Reader_bracketed), sl_Reader_bracketed⟩)
    (c_Reader_bracketed : PySem.W.codeIn K cd_Reader_bracketed "Reader.bracketed" = true)
    (k_Reader_bracketed : PySem.W.keepIn K (.ref x_Reader_bracketed) = true)
    (f_Reader_bracketed : PySem.W.isFn K (.ref x_Reader_bracketed) = true)
    (a_Reader_of_rank : PySem.W.findIn K (.ref x_Reader) "of_rank" = some (some (.ref x_Reader_of_rank)))
    (l_Reader_of_rank : K.lookup x_Reader_of_rank = some ⟨oc_Reader_of_rank, od_Reader_of_rank, .func (PySem.W.fnOf "of_rank" "Reader.of_rank" (defArgs s_Reader_of_rank) (defBody s_Reader_of_rank) (defScope s_Reader_of_rank) .none kV_Reader_of_rank dc_Reader_of_rank pm_Reader_of_rank an_Reader_of_rank cd_Reader_of_rank ct_Reader_of_rank), sl_Reader_of_rank⟩)
    (c_Reader_of_rank : PySem.W.codeIn K cd_Reader_of_rank "Reader.of_rank" = true)
    (k_Reader_of_rank : PySem.W.keepIn K (.ref x_Reader_of_rank) = true)
    (f_Reader_of_rank : PySem.W.isFn K (.ref x_Reader_of_rank) = true)
    (cb_Reader : DL.clB K x_Reader = true)
    (nb_Reader : nasB K x_Reader ["at", "denied", "opened", "pieces"] = true)
    (a_DEEPEST : PySem.W.nsIn K mainGlobals "DEEPEST" = some (some (.int 25 x_DEEPEST)))
    (a_LETTERS : PySem.W.nsIn K mainGlobals "LETTERS" = some (some (.str "abcdefghijklmnopqrstuvwxyz" x_LETTERS)))
    (a_LONGEST_WORD : PySem.W.nsIn K mainGlobals "LONGEST_WORD" = some (some (.int 8 x_LONGEST_WORD)))
    (a_MANY : PySem.W.nsIn K mainGlobals "MANY" = some (some (.ref x_MANY)))
    (l_MANY : K.lookup x_MANY = some ⟨.type "dict", none, .dict es_MANY.toArray n_MANY, #[]⟩)
    (q_MANY : PySem.W.KeysLit w.params es_MANY)
    (u_MANY : (x_MANY == sysModules) = false)
    (t_MANY : TabOk K es_MANY t_MANY)
    (a_MOST_OPEN : PySem.W.nsIn K mainGlobals "MOST_OPEN" = some (some (.int 50 x_MOST_OPEN)))
    (a_MOST_PARTS : PySem.W.nsIn K mainGlobals "MOST_PARTS" = some (some (.int 400 x_MOST_PARTS)))
    (a_RANKS : PySem.W.nsIn K mainGlobals "RANKS" = some (some (.ref x_RANKS)))
    (l_RANKS : K.lookup x_RANKS = some ⟨.type "dict", none, .dict es_RANKS.toArray n_RANKS, #[]⟩)
    (q_RANKS : PySem.W.KeysLit w.params es_RANKS)
    (u_RANKS : (x_RANKS == sysModules) = false)
    (t_RANKS : TabOk K es_RANKS t_RANKS)
    (a_SIGNS : PySem.W.nsIn K mainGlobals "SIGNS" = some (some (.ref x_SIGNS)))
    (l_SIGNS : K.lookup x_SIGNS = some ⟨.type "dict", none, .dict es_SIGNS.toArray n_SIGNS, #[]⟩)
    (q_SIGNS : PySem.W.KeysLit w.params es_SIGNS)
    (u_SIGNS : (x_SIGNS == sysModules) = false)
    (t_SIGNS : TabOk K es_SIGNS t_SIGNS)
    (a_WORDS : PySem.W.nsIn K mainGlobals "WORDS" = some (some (.ref x_WORDS)))
    (l_WORDS : K.lookup x_WORDS = some ⟨.type "dict", none, .dict es_WORDS.toArray n_WORDS, #[]⟩)
    (q_WORDS : PySem.W.KeysLit w.params es_WORDS)
    (u_WORDS : (x_WORDS == sysModules) = false)
    (t_WORDS : TabOk K es_WORDS t_WORDS)
    (a_WORDS_OF_TEXTS : PySem.W.nsIn K mainGlobals "WORDS_OF_TEXTS" = some (some (.ref x_WORDS_OF_TEXTS)))
    (l_WORDS_OF_TEXTS : K.lookup x_WORDS_OF_TEXTS = some o_WORDS_OF_TEXTS)
    (h_WORDS_OF_TEXTS : o_WORDS_OF_TEXTS.cls = .type "tuple" ∧ o_WORDS_OF_TEXTS.data = .seq its_WORDS_OF_TEXTS n_WORDS_OF_TEXTS ∧ its_WORDS_OF_TEXTS.size ≤ sizeLine ∧ Vals [.str "not", .str "and", .str "or", .str "gives", .str "is", .str "yes", .str "no"] its_WORDS_OF_TEXTS.toList)
    (a_NoText : PySem.W.nsIn K mainGlobals "NoText" = some (some (.ref x_NoText)))
    (l_NoText : K.lookup x_NoText = some (excClassObj nm_NoText qn_NoText x_NoText N_NoText bs_NoText [.type "ValueError", .type "Exception", .type "BaseException", .type "object"] true sn_NoText sb_NoText ab_NoText cl_NoText dd_NoText q0_NoText q1_NoText q2_NoText q3_NoText q5_NoText "ValueError.__new__"))
    (i_NoText : PySem.W.findIn K (.ref x_NoText) "__init__" = some (some (.ref xi_NoText)))
    (li_NoText : K.lookup xi_NoText = some ⟨oc_NoText, od_NoText, .func (PySem.W.fnOf "__init__" ("NoText" ++ ".__init__") (defArgs sx_NoText) (defBody sx_NoText) (defScope sx_NoText) .none kV_NoText dc_NoText pm_NoText an_NoText cd_NoText ct_NoText), sl_NoText⟩)
    (ci_NoText : PySem.W.codeIn K cd_NoText ("NoText" ++ ".__init__") = true)
    (ki_NoText : PySem.W.keepIn K (.ref xi_NoText) = true)
    (o_NoText : oxB K x_NoText xi_NoText "row" [.type "ValueError", .type "Exception", .type "BaseException", .type "object"] = true)
    (vb_ValueError : PySem.W.findCls K (.type "ValueError") (.type "type") "__init__" = some (.val (.builtin "ValueError.__init__")))
    (z_ValueError : PySem.W.nsIn K mainGlobals "ValueError" = some none)
    (z_all : PySem.W.nsIn K mainGlobals "all" = some none)
    (z_int : PySem.W.nsIn K mainGlobals "int" = some none)
    (z_isinstance : PySem.W.nsIn K mainGlobals "isinstance" = some none)
    (z_len : PySem.W.nsIn K mainGlobals "len" = some none)
    (z_max : PySem.W.nsIn K mainGlobals "max" = some none)
    (z_min : PySem.W.nsIn K mainGlobals "min" = some none)
    (z_range : PySem.W.nsIn K mainGlobals "range" = some none)
    (z_repr : PySem.W.nsIn K mainGlobals "repr" = some none)
    (z_str : PySem.W.nsIn K mainGlobals "str" = some none)
    (z_tuple : PySem.W.nsIn K mainGlobals "tuple" = some none)
    (nbk : PySem.W.nsIn K cStatics sharingNotToldKey = some none) :
    ∃ fd : FuncData, (∀ (s : Shared) (v : Value), BindsTo s fd ⟨[v], []⟩ [("_law_script", v)]) ∧ ∀ base : Heap, K.In base → base.Ns mainGlobals mg → FnG PySem.Challenge.pw_middlesay_k05_sayings_as_texts w K mg base (L2.CX PySem.Challenge.pw_middlesay_k05_sayings_as_texts w) 202 fa fd ["_law_script"] (spLaw K 63) := by
  have e := hfa.symm.trans (PySem.W.mg_of X G a_law)
  cases e
  have F_is_word := fun_mk (st := s_is_word) l_is_word c_is_word k_is_word
  have b_is_word := F_is_word.binds (ps := ["thing"]) fun _ _ _ _ _ _ us hl => match us, hl with | [_], _ => rfl
  have F_parts_in := fun_mk (st := s_parts_in) l_parts_in c_parts_in k_parts_in
  have b_parts_in := F_parts_in.binds (ps := ["thing", "deep"]) fun _ _ _ _ _ _ us hl => match us, hl with | [_, _], _ => rfl
  have F_is_saying := fun_mk (st := s_is_saying) l_is_saying c_is_saying k_is_saying
  have b_is_saying := F_is_saying.binds (ps := ["thing"]) fun _ _ _ _ _ _ us hl => match us, hl with | [_], _ => rfl
  have F_in_brackets := fun_mk (st := s_in_brackets) l_in_brackets c_in_brackets k_in_brackets
  have b_in_brackets := F_in_brackets.binds (ps := ["text", "needed"]) fun _ _ _ _ _ _ us hl => match us, hl with | [_, _], _ => rfl
  have F_show_saying := fun_mk (st := s_show_saying) l_show_saying c_show_saying k_show_saying
  have b_show_saying := F_show_saying.binds (ps := ["saying"]) fun _ _ _ _ _ _ us hl => match us, hl with | [_], _ => rfl
  have F_pieces_of := fun_mk (st := s_pieces_of) l_pieces_of c_pieces_of k_pieces_of
  have b_pieces_of := F_pieces_of.binds (ps := ["text"]) fun _ _ _ _ _ _ us hl => match us, hl with | [_], _ => rfl
  have F_read_saying := fun_mk (st := s_read_saying) l_read_saying c_read_saying k_read_saying
  have b_read_saying := F_read_saying.binds (ps := ["text"]) fun _ _ _ _ _ _ us hl => match us, hl with | [_], _ => rfl
  have F__law_tape := fun_mk (st := s_law_tape) l__law_tape c__law_tape k__law_tape
  have b__law_tape := F__law_tape.binds (ps := ["_law_script"]) fun _ _ _ _ _ _ us hl => match us, hl with | [_], _ => rfl
  have F__law_draw := fun_mk (st := s_law_draw) l__law_draw c__law_draw k__law_draw
  have b__law_draw := F__law_draw.binds (ps := ["_law_tape_here", "_law_many"]) fun _ _ _ _ _ _ us hl => match us, hl with | [_, _], _ => rfl
  have F__law_words := fun_mk (st := s_law_words) l__law_words c__law_words k__law_words
  have b__law_words := F__law_words.binds (ps := ["_law_tape_here", "_law_many"]) fun _ _ _ _ _ _ us hl => match us, hl with | [_, _], _ => rfl
  have F__law_saying := fun_mk (st := s_law_saying) l__law_saying c__law_saying k__law_saying
  have b__law_saying := F__law_saying.binds (ps := ["_law_tape_here", "_law_names", "_law_left", "_law_deep"]) fun _ _ _ _ _ _ us hl => match us, hl with | [_, _, _, _], _ => rfl
  have F__law_rank := fun_mk (st := s_law_rank) l__law_rank c__law_rank k__law_rank
  have b__law_rank := F__law_rank.binds (ps := ["_law_saying_here"]) fun _ _ _ _ _ _ us hl => match us, hl with | [_], _ => rfl
  have F__law_text := fun_mk (st := s_law_text) l__law_text c__law_text k__law_text
  have b__law_text := F__law_text.binds (ps := ["_law_saying_here"]) fun _ _ _ _ _ _ us hl => match us, hl with | [_], _ => rfl
  have F__law_loose := fun_mk (st := s_law_loose) l__law_loose c__law_loose k__law_loose
  have b__law_loose := F__law_loose.binds (ps := ["_law_tape_here", "_law_saying_here"]) fun _ _ _ _ _ _ us hl => match us, hl with | [_, _], _ => rfl
  have F_law := fun_mk (st := s_law) l_law c_law k_law
  have b_law := F_law.binds (ps := ["_law_script"]) fun _ _ _ _ _ _ us hl => match us, hl with | [_], _ => rfl
  have F_Reader___init__ := fun_mk (st := s_Reader___init__) l_Reader___init__ c_Reader___init__ k_Reader___init__
  have b_Reader___init__ := F_Reader___init__.binds (ps := ["self", "pieces"]) fun _ _ _ _ _ _ us hl => match us, hl with | [_, _], _ => rfl
  have F_Reader_now := fun_mk (st := s_Reader_now) l_Reader_now c_Reader_now k_Reader_now
  have b_Reader_now := F_Reader_now.binds (ps := ["self"]) fun _ _ _ _ _ _ us hl => match us, hl with | [_], _ => rfl
  have F_Reader_taken := fun_mk (st := s_Reader_taken) l_Reader_taken c_Reader_taken k_Reader_taken
  have b_Reader_taken := F_Reader_taken.binds (ps := ["self"]) fun _ _ _ _ _ _ us hl => match us, hl with | [_], _ => rfl
  have F_Reader_refuse := fun_mk (st := s_Reader_refuse) l_Reader_refuse c_Reader_refuse k_Reader_refuse
  have b_Reader_refuse := F_Reader_refuse.binds (ps := ["self"]) fun _ _ _ _ _ _ us hl => match us, hl with | [_], _ => rfl
  have F_Reader_single := fun_mk (st := s_Reader_single) l_Reader_single c_Reader_single k_Reader_single
  have b_Reader_single := F_Reader_single.binds (ps := ["self"]) fun _ _ _ _ _ _ us hl => match us, hl with | [_], _ => rfl
  have F_Reader_denial := fun_mk (st := s_Reader_denial) l_Reader_denial c_Reader_denial k_Reader_denial
  have b_Reader_denial := F_Reader_denial.binds (ps := ["self"]) fun _ _ _ _ _ _ us hl => match us, hl with | [_], _ => rfl
  have F_Reader_bracketed := fun_mk (st := s_Reader_bracketed) l_Reader_bracketed c_Reader_bracketed k_Reader_bracketed
  have b_Reader_bracketed := F_Reader_bracketed.binds (ps := ["self"]) fun _ _ _ _ _ _ us hl => match us, hl with | [_], _ => rfl
  have F_Reader_of_rank := fun_mk (st := s_Reader_of_rank) l_Reader_of_rank c_Reader_of_rank k_Reader_of_rank
  have b_Reader_of_rank := F_Reader_of_rank.binds (ps := ["self", "rank"]) fun _ _ _ _ _ _ us hl => match us, hl with | [_, _], _ => rfl
  have F_NoText := fun_mk (st := sx_NoText) li_NoText ci_NoText ki_NoText
  have b_NoText := F_NoText.binds (ps := ["self", "row"]) fun _ _ _ _ _ _ us hl => match us, hl with | [_, _], _ => rfl
  let T : Txt w K mg := ⟨x_is_word,
    _,
    F_is_word,
    PySem.W.mg_of X G a_is_word,
    b_is_word,
    x_parts_in,
    _,
    F_parts_in,
    PySem.W.mg_of X G a_parts_in,
    b_parts_in,
    x_is_saying,
    _,
    F_is_saying,
    PySem.W.mg_of X G a_is_saying,
    b_is_saying,
    x_in_brackets,
    _,
    F_in_brackets,
    PySem.W.mg_of X G a_in_brackets,
    b_in_brackets,
    x_show_saying,
    _,
    F_show_saying,
    PySem.W.mg_of X G a_show_saying,
    b_show_saying,
    x_pieces_of,
    _,
    F_pieces_of,
    PySem.W.mg_of X G a_pieces_of,
    b_pieces_of,
    x_read_saying,
    _,
    F_read_saying,
    PySem.W.mg_of X G a_read_saying,
    b_read_saying,
    x__law_tape,
    _,
    F__law_tape,
    PySem.W.mg_of X G a__law_tape,
    b__law_tape,
    x__law_draw,
    _,
    F__law_draw,
    PySem.W.mg_of X G a__law_draw,
    b__law_draw,
    x__law_words,
    _,
    F__law_words,
    PySem.W.mg_of X G a__law_words,
    b__law_words,
    x__law_saying,
    _,
    F__law_saying,
    PySem.W.mg_of X G a__law_saying,
    b__law_saying,
    x__law_rank,
    _,
    F__law_rank,
    PySem.W.mg_of X G a__law_rank,
    b__law_rank,
    x__law_text,
    _,
    F__law_text,
    PySem.W.mg_of X G a__law_text,
    b__law_text,
    x__law_loose,
    _,
    F__law_loose,
    PySem.W.mg_of X G a__law_loose,
    b__law_loose,
    fa,
    _,
    F_law,
    PySem.W.mg_of X G a_law,
    b_law,
    x_Reader___init__,
    _,
    F_Reader___init__,
    b_Reader___init__,
    x_Reader_now,
    _,
    F_Reader_now,
    b_Reader_now,
    x_Reader_taken,
    _,
    F_Reader_taken,
    b_Reader_taken,
    x_Reader_refuse,
    _,
    F_Reader_refuse,
    b_Reader_refuse,
    x_Reader_single,
    _,
    F_Reader_single,
    b_Reader_single,
    x_Reader_denial,
    _,
    F_Reader_denial,
    b_Reader_denial,
    x_Reader_bracketed,
    _,
    F_Reader_bracketed,
    b_Reader_bracketed,
    x_Reader_of_rank,
    _,
    F_Reader_of_rank,
    b_Reader_of_rank,
    x_Reader,
    PySem.W.mg_of X G a_Reader,
    (cl_mk cb_Reader).1,
    ⟨(cl_mk cb_Reader).2.1, a_Reader___init__, f_Reader___init__, (cl_mk cb_Reader).2.2⟩,
    ⟨a_Reader_now, f_Reader_now, k_Reader_now⟩,
    ⟨a_Reader_taken, f_Reader_taken, k_Reader_taken⟩,
    ⟨a_Reader_refuse, f_Reader_refuse, k_Reader_refuse⟩,
    ⟨a_Reader_single, f_Reader_single, k_Reader_single⟩,
    ⟨a_Reader_denial, f_Reader_denial, k_Reader_denial⟩,
    ⟨a_Reader_bracketed, f_Reader_bracketed, k_Reader_bracketed⟩,
    ⟨a_Reader_of_rank, f_Reader_of_rank, k_Reader_of_rank⟩,
    nas_mk nb_Reader (by simp),
    nas_mk nb_Reader (by simp),
    nas_mk nb_Reader (by simp),
    nas_mk nb_Reader (by simp),
    _,
    .int _,
    PySem.W.mg_of X G a_DEEPEST,
    ⟨_, rfl⟩,
    .int _,
    _,
    .str _,
    PySem.W.mg_of X G a_LETTERS,
    ⟨_, rfl⟩,
    .str _,
    _,
    .int _,
    PySem.W.mg_of X G a_LONGEST_WORD,
    ⟨_, rfl⟩,
    .int _,
    x_MANY,
    PySem.W.mg_of X G a_MANY,
    ⟨_, _, ⟨l_MANY, q_MANY, u_MANY⟩, t_MANY⟩,
    _,
    .int _,
    PySem.W.mg_of X G a_MOST_OPEN,
    ⟨_, rfl⟩,
    .int _,
    _,
    .int _,
    PySem.W.mg_of X G a_MOST_PARTS,
    ⟨_, rfl⟩,
    .int _,
    x_RANKS,
    PySem.W.mg_of X G a_RANKS,
    ⟨_, _, ⟨l_RANKS, q_RANKS, u_RANKS⟩, t_RANKS⟩,
    x_SIGNS,
    PySem.W.mg_of X G a_SIGNS,
    ⟨_, _, ⟨l_SIGNS, q_SIGNS, u_SIGNS⟩, t_SIGNS⟩,
    x_WORDS,
    PySem.W.mg_of X G a_WORDS,
    ⟨_, _, ⟨l_WORDS, q_WORDS, u_WORDS⟩, t_WORDS⟩,
    _,
    .ref x_WORDS_OF_TEXTS,
    PySem.W.mg_of X G a_WORDS_OF_TEXTS,
    rfl,
    .tup (.inr ⟨o_WORDS_OF_TEXTS, its_WORDS_OF_TEXTS, n_WORDS_OF_TEXTS, l_WORDS_OF_TEXTS, h_WORDS_OF_TEXTS⟩) (.cons (.str _) (.cons (.str _) (.cons (.str _) (.cons (.str _) (.cons (.str _) (.cons (.str _) (.cons (.str _) .nil))))))),
    x_NoText,
    xi_NoText,
    _,
    xc_mk (PySem.W.mg_of X G a_NoText) l_NoText i_NoText F_NoText b_NoText o_NoText,
    vb_ValueError,
    PySem.W.mg_none_of X G z_ValueError,
    PySem.W.mg_none_of X G z_all,
    PySem.W.mg_none_of X G z_int,
    PySem.W.mg_none_of X G z_isinstance,
    PySem.W.mg_none_of X G z_len,
    PySem.W.mg_none_of X G z_max,
    PySem.W.mg_none_of X G z_min,
    PySem.W.mg_none_of X G z_range,
    PySem.W.mg_none_of X G z_repr,
    PySem.W.mg_none_of X G z_str,
    PySem.W.mg_none_of X G z_tuple,
    nbk⟩
  exact ⟨T.fd_law, fun s v => .of_eq rfl, fun base _ _ => law_ofG (oks T 200).o_law law_holds⟩
end Law
open PySem PySem.W PyProof.Rows
set_option maxRecDepth 100000 in
set_option maxHeartbeats 0 in
theorem PySem.Challenge.cw_middlesay_k05_sayings_as_texts_holds : PySem.Challenge.rw_middlesay_k05_sayings_as_texts.Holds := by
  w_on; o_law; k_head; (case hw => w_witness2)
  k_fill
  refine DL.walk_ofG (l := PySem.Challenge.rw_middlesay_k05_sayings_as_texts) (n := 63) (k := 202) (x := "_law_script") (CX := fun w => L2.CX PySem.Challenge.pw_middlesay_k05_sayings_as_texts w) (sp := fun w => DL.spLaw _ 63) rfl (by decide) rfl ⟨rfl, by decide, by decide⟩ (fun w h Y => PySem.W.kIn_of Y) ?F (fun _ _ a ns hl ho hS => ⟨a, ns, rfl, ho, hS, hl, fun _ => rfl⟩) (fun _ _ _ _ _ h => DL.cx_none h)
  case F =>
    intro w mg fa h KX G hmg
    refine' Law.all_mk KX G hmg ?a_is_word ?l_is_word ?c_is_word ?k_is_word ?a_parts_in ?l_parts_in ?c_parts_in ?k_parts_in ?a_is_saying ?l_is_saying ?c_is_saying ?k_is_saying ?a_in_brackets ?l_in_brackets ?c_in_brackets ?k_in_brackets ?a_show_saying ?l_show_saying ?c_show_saying ?k_show_saying ?a_pieces_of ?l_pieces_of ?c_pieces_of ?k_pieces_of ?a_read_saying ?l_read_saying ?c_read_saying ?k_read_saying ?a__law_tape ?l__law_tape ?c__law_tape ?k__law_tape ?a__law_draw ?l__law_draw ?c__law_draw ?k__law_draw ?a__law_words ?l__law_words ?c__law_words ?k__law_words ?a__law_saying ?l__law_saying ?c__law_saying ?k__law_saying ?a__law_rank ?l__law_rank ?c__law_rank ?k__law_rank ?a__law_text ?l__law_text ?c__law_text ?k__law_text ?a__law_loose ?l__law_loose ?c__law_loose ?k__law_loose ?a_law ?l_law ?c_law ?k_law ?a_Reader ?a_Reader___init__ ?l_Reader___init__ ?c_Reader___init__ ?k_Reader___init__ ?f_Reader___init__ ?a_Reader_now ?l_Reader_now ?c_Reader_now ?k_Reader_now ?f_Reader_now ?a_Reader_taken ?l_Reader_taken ?c_Reader_taken ?k_Reader_taken ?f_Reader_taken ?a_Reader_refuse ?l_Reader_refuse ?c_Reader_refuse ?k_Reader_refuse ?f_Reader_refuse ?a_Reader_single ?l_Reader_single ?c_Reader_single ?k_Reader_single ?f_Reader_single ?a_Reader_denial ?l_Reader_denial ?c_Reader_denial ?k_Reader_denial ?f_Reader_denial ?a_Reader_bracketed ?l_Reader_bracketed ?c_Reader_bracketed ?k_Reader_bracketed ?f_Reader_bracketed ?a_Reader_of_rank ?l_Reader_of_rank ?c_Reader_of_rank ?k_Reader_of_rank ?f_Reader_of_rank ?cb_Reader ?nb_Reader ?a_DEEPEST ?a_LETTERS ?a_LONGEST_WORD ?a_MANY ?l_MANY ?q_MANY ?u_MANY ?t_MANY ?a_MOST_OPEN ?a_MOST_PARTS ?a_RANKS ?l_RANKS ?q_RANKS ?u_RANKS ?t_RANKS ?a_SIGNS ?l_SIGNS ?q_SIGNS ?u_SIGNS ?t_SIGNS ?a_WORDS ?l_WORDS ?q_WORDS ?u_WORDS ?t_WORDS ?a_WORDS_OF_TEXTS ?l_WORDS_OF_TEXTS ?h_WORDS_OF_TEXTS ?a_NoText ?l_NoText ?i_NoText ?li_NoText ?ci_NoText ?ki_NoText ?o_NoText ?vb_ValueError ?z_ValueError ?z_all ?z_int ?z_isinstance ?z_len ?z_max ?z_min ?z_range ?z_repr ?z_str ?z_tuple ?nbk
    (case a_is_word => k_is)
    (case l_is_word => k_is)
    (case c_is_word => k_is)
    (case k_is_word => k_is)
    (case a_parts_in => k_is)
    (case l_parts_in => k_is)
    (case c_parts_in => k_is)
    (case k_parts_in => k_is)
    (case a_is_saying => k_is)
    (case l_is_saying => k_is)
    (case c_is_saying => k_is)
    (case k_is_saying => k_is)
    (case a_in_brackets => k_is)
    (case l_in_brackets => k_is)
    (case c_in_brackets => k_is)
    (case k_in_brackets => k_is)
    (case a_show_saying => k_is)
    (case l_show_saying => k_is)
    (case c_show_saying => k_is)
    (case k_show_saying => k_is)
    (case a_pieces_of => k_is)
    (case l_pieces_of => k_is)
    (case c_pieces_of => k_is)
    (case k_pieces_of => k_is)
    (case a_read_saying => k_is)
    (case l_read_saying => k_is)
    (case c_read_saying => k_is)
    (case k_read_saying => k_is)
    (case a__law_tape => k_is)
    (case l__law_tape => k_is)
    (case c__law_tape => k_is)
    (case k__law_tape => k_is)
    (case a__law_draw => k_is)
    (case l__law_draw => k_is)
    (case c__law_draw => k_is)
    (case k__law_draw => k_is)
    (case a__law_words => k_is)
    (case l__law_words => k_is)
    (case c__law_words => k_is)
    (case k__law_words => k_is)
    (case a__law_saying => k_is)
    (case l__law_saying => k_is)
    (case c__law_saying => k_is)
    (case k__law_saying => k_is)
    (case a__law_rank => k_is)
    (case l__law_rank => k_is)
    (case c__law_rank => k_is)
    (case k__law_rank => k_is)
    (case a__law_text => k_is)
    (case l__law_text => k_is)
    (case c__law_text => k_is)
    (case k__law_text => k_is)
    (case a__law_loose => k_is)
    (case l__law_loose => k_is)
    (case c__law_loose => k_is)
    (case k__law_loose => k_is)
    (case a_law => k_is)
    (case l_law => k_is)
    (case c_law => k_is)
    (case k_law => k_is)
    (case a_Reader => k_is)
    (case a_Reader___init__ => k_is)
    (case l_Reader___init__ => k_is)
    (case c_Reader___init__ => k_is)
    (case k_Reader___init__ => k_is)
    (case f_Reader___init__ => k_is)
    (case a_Reader_now => k_is)
    (case l_Reader_now => k_is)
    (case c_Reader_now => k_is)
    (case k_Reader_now => k_is)
    (case f_Reader_now => k_is)
    (case a_Reader_taken => k_is)
    (case l_Reader_taken => k_is)
    (case c_Reader_taken => k_is)
    (case k_Reader_taken => k_is)
    (case f_Reader_taken => k_is)
    (case a_Reader_refuse => k_is)
    (case l_Reader_refuse => k_is)
    (case c_Reader_refuse => k_is)
    (case k_Reader_refuse => k_is)
    (case f_Reader_refuse => k_is)
    (case a_Reader_single => k_is)
    (case l_Reader_single => k_is)
    (case c_Reader_single => k_is)
    (case k_Reader_single => k_is)
    (case f_Reader_single => k_is)
    (case a_Reader_denial => k_is)
    (case l_Reader_denial => k_is)
    (case c_Reader_denial => k_is)
    (case k_Reader_denial => k_is)
    (case f_Reader_denial => k_is)
    (case a_Reader_bracketed => k_is)
    (case l_Reader_bracketed => k_is)
    (case c_Reader_bracketed => k_is)
    (case k_Reader_bracketed => k_is)
    (case f_Reader_bracketed => k_is)
    (case a_Reader_of_rank => k_is)
    (case l_Reader_of_rank => k_is)
    (case c_Reader_of_rank => k_is)
    (case k_Reader_of_rank => k_is)
    (case f_Reader_of_rank => k_is)
    (case cb_Reader => kernel_rfl)
    (case nb_Reader => kernel_rfl)
    (case a_DEEPEST => k_is)
    (case a_LETTERS => k_is)
    (case a_LONGEST_WORD => k_is)
    (case a_MANY => k_is)
    (case l_MANY => k_is)
    (case q_MANY => exact ⟨⟨_, _, rfl, rfl⟩, ⟨_, _, rfl, rfl⟩, ⟨_, _, rfl, rfl⟩, ⟨_, _, rfl, rfl⟩, ⟨_, _, rfl, rfl⟩, ⟨_, _, rfl, rfl⟩, ⟨_, _, rfl, rfl⟩, True.intro⟩)
    (case u_MANY => decide)
    (case t_MANY => exact (DL.TabOk.i rfl rfl (DL.TabOk.i rfl rfl (DL.TabOk.i rfl rfl (DL.TabOk.i rfl rfl (DL.TabOk.i rfl rfl (DL.TabOk.i rfl rfl (DL.TabOk.i rfl rfl .nil))))))))
    (case a_MOST_OPEN => k_is)
    (case a_MOST_PARTS => k_is)
    (case a_RANKS => k_is)
    (case l_RANKS => k_is)
    (case q_RANKS => exact ⟨⟨_, _, rfl, rfl⟩, ⟨_, _, rfl, rfl⟩, ⟨_, _, rfl, rfl⟩, ⟨_, _, rfl, rfl⟩, ⟨_, _, rfl, rfl⟩, ⟨_, _, rfl, rfl⟩, ⟨_, _, rfl, rfl⟩, ⟨_, _, rfl, rfl⟩, True.intro⟩)
    (case u_RANKS => decide)
    (case t_RANKS => exact (DL.TabOk.i rfl rfl (DL.TabOk.i rfl rfl (DL.TabOk.i rfl rfl (DL.TabOk.i rfl rfl (DL.TabOk.i rfl rfl (DL.TabOk.i rfl rfl (DL.TabOk.i rfl rfl (DL.TabOk.i rfl rfl .nil)))))))))
    (case a_SIGNS => k_is)
    (case l_SIGNS => k_is)
    (case q_SIGNS => exact ⟨⟨_, _, rfl, rfl⟩, ⟨_, _, rfl, rfl⟩, ⟨_, _, rfl, rfl⟩, ⟨_, _, rfl, rfl⟩, True.intro⟩)
    (case u_SIGNS => decide)
    (case t_SIGNS => exact (DL.TabOk.s rfl rfl (DL.TabOk.s rfl rfl (DL.TabOk.s rfl rfl (DL.TabOk.s rfl rfl .nil)))))
    (case a_WORDS => k_is)
    (case l_WORDS => k_is)
    (case q_WORDS => exact ⟨⟨_, _, rfl, rfl⟩, ⟨_, _, rfl, rfl⟩, ⟨_, _, rfl, rfl⟩, ⟨_, _, rfl, rfl⟩, True.intro⟩)
    (case u_WORDS => decide)
    (case t_WORDS => exact (DL.TabOk.s rfl rfl (DL.TabOk.s rfl rfl (DL.TabOk.s rfl rfl (DL.TabOk.s rfl rfl .nil)))))
    (case a_WORDS_OF_TEXTS => k_is)
    (case l_WORDS_OF_TEXTS => k_is)
    (case h_WORDS_OF_TEXTS => exact ⟨rfl, rfl, by decide, (.cons ⟨_, rfl⟩ (.cons ⟨_, rfl⟩ (.cons ⟨_, rfl⟩ (.cons ⟨_, rfl⟩ (.cons ⟨_, rfl⟩ (.cons ⟨_, rfl⟩ (.cons ⟨_, rfl⟩ .nil)))))))⟩)
    (case a_NoText => k_is)
    (case l_NoText => k_is)
    (case i_NoText => k_is)
    (case li_NoText => k_is)
    (case ci_NoText => k_is)
    (case ki_NoText => k_is)
    (case o_NoText => kernel_rfl)
    (case vb_ValueError => k_is)
    (case z_ValueError => k_is)
    (case z_all => k_is)
    (case z_int => k_is)
    (case z_isinstance => k_is)
    (case z_len => k_is)
    (case z_max => k_is)
    (case z_min => k_is)
    (case z_range => k_is)
    (case z_repr => k_is)
    (case z_str => k_is)
    (case z_tuple => k_is)
    (case nbk => k_is)
