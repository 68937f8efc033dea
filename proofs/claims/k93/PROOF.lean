import PyProof.Rows.All
import Wide.All
import OpenK.AllK
import Wide.FinOn
import HandS.ForMost
import HandS.ForExc
import HandS.TupAny
import HandS.Flow
import HandS.IsInst
import HandS.Wide
import HandS.Deep
import HandS.CallSlots
import HandS.More
import KE.KDictKeyed
import HandS.WideBits
import KE.KExcInit
import HandS.ExcInit
import HandS.ExcField
import HandS.ExcIs
import KE.KExcIs
import HandS.Set
import HandS.SetFor
import HandS.Strs
import HandS.DeepEq
import KE.KEqDict
import KE.SortCalls
import HandS.TupSets
import KE.KeyNested
import HandS.StrMore
import HandS.Style
import HandS.RaiseMore
import PyProof.StrOps2
import HandS.ListItems
import HandS.DictTup
import HandS.OwnEq
import HandS.Zip
import HandS.Codes
import HandS.Zip0
import PyProof.EnumMake
import PyProof.Draws
import HandS.TupMul
import HandS.DictComp
import HandS.Conv
import HandS.RevRange
import KE.KRevSl
import HandS.TupLe
import HandS.Defaults
import HandS.MakeKwOnly
import PyProof.InstNe
import PyProof.NeKinds
import PyProof.Rows.ReprR
import KE.KCallOwn
import KE.KUnpack
import KE.SortKeyHeap
import KE.GoesMore
import PyProof.Rows.CallKwBuiltin
import PyProof.Rows.SumAny
import KE.KDictCopyH
import KE.KDictPairs
import HandS.Finally
import HandS.CallLocal
import PySem.Challenge.RW_middlesay_k93_desk_deeds
set_option Elab.async false
set_option linter.all false
set_option maxRecDepth 100000
namespace DL
open PySem PySem.Spec L2
inductive U where
  | non | bl (b : Bool) | int (i : Int) | str (x : Str)
  | tup (us : List U) | lst (us : List U) | frz (us : List U)
  | dic (ks : List Key) (us : List U)
  | loc (n : Nat)
  | ty (n : String)
  | exc (cls fld : Str) (arg : U)
  | cl (c : Str)
inductive Ob where
  | lst (us : List U) | dic (ks : List Key) (us : List U) | ins (c : Str) (fs : List (Str × U)) | kd (ks us : List U) | dead
abbrev Sto := List Ob
mutual
def keyN : U → Option NestedKey
  | .non => some .none
  | .bl b => some (.num (if b = true then 1 else 0))
  | .int i => some (.num i)
  | .str x => some (.text x)
  | .tup us => (keyNs us).map .tup
  | _ => none
def keyNs : List U → Option (List NestedKey)
  | [] => some []
  | u :: us => match keyN u, keyNs us with
    | some k, some ks => some (k :: ks)
    | _, _ => none
end
def keyT (u : U) : Option NestedKey := match keyN u with
  | some (.tup ks) => if (NestedKey.tup ks).depth ≤ 8 then some (.tup ks) else none
  | _ => none
def KdH (P : Program) (w : World) (a : Addr) (L : List (NestedKey × Addr × V)) (h : Heap) : Prop :=
  (a == sysModules) = false ∧ L.length ≤ sizeLine ∧ ∃ (o : Obj) (es : Array DictEntry) (ep : Nat) (xs : List (NestedKey × Addr × Value)), h.get? a = some o ∧ o.ExactDict ∧ o.data = .dict es ep ∧ es.toList = xs.map (entryOfKey (nestedKind P w)) ∧ (xs.map (·.1)).Nodup ∧
    L.map (fun x => (x.1, x.2.1)) = xs.map (fun x => (x.1, x.2.1)) ∧ Vals (L.map (·.2.2)) (xs.map (·.2.2))
def KdO (P : Program) (w : World) (a : Addr) (L : List (NestedKey × Addr × V)) : HO := .ext (KdH P w a L)
structure Exc where
  cls : Str
  fld : Str
  arg : U
inductive R (α : Type) where
  | ok (a : α) (S : Sto) | exc (x : Exc) (S : Sto) | bad
abbrev En := List (Option U)
def R.bind {α β : Type} (r : R α) (k : α → Sto → R β) : R β := match r with
  | .ok a S => k a S
  | .exc x S => .exc x S
  | .bad => .bad
def Pst {α : Type} (r : R α) (P : α → Sto → Prop) (E : Exc → Sto → Prop) : Prop := match r with
  | .ok a S => P a S
  | .exc x S => E x S
  | .bad => False
theorem Pst.of_bind {α β : Type} {r : R α} {k : α → Sto → R β} {P : β → Sto → Prop} {E : Exc → Sto → Prop} (h : Pst (r.bind k) P E) : Pst r (fun a S => Pst (k a S) P E) E := by
  cases r <;> exact h
theorem Pst.mono {α : Type} {r : R α} {P P' : α → Sto → Prop} {E E' : Exc → Sto → Prop} (h : Pst r P E) (hp : ∀ a S, P a S → P' a S) (he : ∀ x S, E x S → E' x S) : Pst r P' E' := by
  cases r with
  | ok a S => exact hp _ _ h
  | exc x S => exact he _ _ h
  | bad => exact h
structure Wd where
  m : List Addr
  S : Sto
  H : Hp
  r : List Addr
def Wd.kept (w : Wd) (a : Addr) : Prop := ∃ (n : Nat) (o : Ob), w.m[n]? = some a ∧ w.S[n]? = some o ∧ o ≠ Ob.dead
def Wd.live (w : Wd) (a : Addr) : Prop := a ∈ w.r ∨ w.kept a
def FzL (K : PySem.W.Frag) (H : Hp) (a : Addr) (xs : List V) : Prop := (∃ o, H a = some (.frz o (.lst xs))) ∨
    ∃ (o : Obj) (its : Array Value) (n : Nat), K.lookup a = some o ∧ o.cls = .type "list" ∧ o.dict = none ∧ o.data = .seq its n ∧ its.size ≤ sizeLine ∧ Vals xs its.toList
theorem FzL.sq {K : PySem.W.Frag} {H : Hp} {a : Addr} {xs : List V} (h : FzL K H a xs) : SqL K H a xs := by
  rcases h with h | h
  · exact .inl (.inr h)
  · exact .inr h
def TqT (K : PySem.W.Frag) (H : Hp) (a : Addr) (xs : List V) : Prop := H a = some (.tup xs) ∨
    ∃ (o : Obj) (its : Array Value) (n : Nat), K.lookup a = some o ∧ o.cls = .type "tuple" ∧ o.data = .seq its n ∧ its.size ≤ sizeLine ∧ Vals xs its.toList
theorem TqT.sq {K : PySem.W.Frag} {H : Hp} {a : Addr} {xs : List V} (h : TqT K H a xs) : SqT K H a xs := by
  rcases h with h | h
  · exact .inl (.inl h)
  · exact .inr h
theorem TqT.of {K : PySem.W.Frag} {H : Hp} {a : Addr} {xs : List V} (h : H a = some (.tup xs)) : TqT K H a xs := .inl h
structure KM where
  K : PySem.W.Frag
  mg : Str → Option Value
  P : Program
  wd : World
instance : Coe KM PySem.W.Frag := ⟨KM.K⟩
def exv (a C d : Addr) : HO := .ext fun h => ∃ (oe : Obj) (vs : Array Value), h.get? a = some oe ∧ Zc (.ref C) (some d) oe ∧ oe.data = .fields vs
theorem exv_kd {a b C d : Addr} {P : Program} {w : World} {L : List (NestedKey × Addr × V)} (h : exv b C d = KdO P w a L) : False := by
  unfold exv KdO at h
  have e := congrFun (HO.ext.inj h) ⟨(List.replicate (a + b + 1) { cls := .ref C, dict := some d, data := .fields #[] }).toArray, {}⟩
  have g : ∀ c, c < a + b + 1 → (⟨(List.replicate (a + b + 1) { cls := .ref C, dict := some d, data := .fields #[] }).toArray, {}⟩ : Heap).get? c = some { cls := .ref C, dict := some d, data := .fields #[] } := fun c hc => by
    unfold Heap.get?
    simp [List.getElem?_replicate, hc]
  have l := e.mp ⟨_, #[], g b (Nat.lt_succ_of_le (Nat.le_add_left b a)), ⟨rfl, rfl⟩, rfl⟩
  obtain ⟨_, _, o, es, ep, xs, h1, h2, _⟩ := l
  rw [g a (Nat.lt_succ_of_le (Nat.le_add_right a b))] at h1
  cases h1
  exact nomatch h2.1
abbrev KMof (X : Cx) : KM := ⟨X.K, X.mg, X.prog, X.w⟩
mutual
inductive VR (K : KM) (w : Wd) : U → V → Prop
  | non : VR K w .non .non
  | bl (b : Bool) : VR K w (.bl b) (.bl b)
  | int (i : Int) : VR K w (.int i) (.int i)
  | str (x : Str) : VR K w (.str x) (.str x)
  | tup {a : Addr} {xs : List V} {us : List U} : TqT K w.H a xs → VRs K w us xs → VR K w (.tup us) (.ref a)
  | lst {a : Addr} {xs : List V} {us : List U} : w.H a = some (.lst xs) → ¬ w.live a → VRs K w us xs → VR K w (.lst us) (.ref a)
  | frz {a : Addr} {xs : List V} {us : List U} : FzL K w.H a xs → VRs K w us xs → VR K w (.frz us) (.ref a)
  | dic {a : Addr} {ks : List Key} {xs : List V} {us : List U} : w.H a = some (.dK (ks.zip xs)) → ¬ w.live a → ks.length = us.length → VRs K w us xs → VR K w (.dic ks us) (.ref a)
  | loc {n : Nat} {a : Addr} : w.m[n]? = some a → VR K w (.loc n) (.ref a)
  | ty (n : String) : VR K w (.ty n) (.ty n)
  | exc {a d C : Addr} {v : V} {c f : Str} {u : U} : w.H a = some (exv a C d) → w.H d = some (.xd [(f, v)]) → K.mg c = some (.ref C) → VR K w u v → VR K w (.exc c f u) (.ref a)
  | cl {C : Addr} {c : Str} : K.mg c = some (.ref C) → VR K w (.cl c) (.ref C)
inductive VRs (K : KM) (w : Wd) : List U → List V → Prop
  | nil : VRs K w [] []
  | cons {u : U} {us : List U} {v : V} {vs : List V} : VR K w u v → VRs K w us vs → VRs K w (u :: us) (v :: vs)
end
structure Ext (w w' : Wd) : Prop where
  m : ∃ l, w'.m = w.m ++ l
  keep : ∀ a o, w.H a = some o → ¬ w.live a → w'.H a = some o
  live : ∀ a, w'.live a → w.live a ∨ w.H a = none
theorem Ext.refl (w : Wd) : Ext w w := ⟨⟨[], (List.append_nil _).symm⟩, fun _ _ h _ => h, fun _ h => .inl h⟩
theorem Ext.trans {w w1 w2 : Wd} (a : Ext w w1) (b : Ext w1 w2) : Ext w w2 := by
  obtain ⟨l1, e1⟩ := a.m
  obtain ⟨l2, e2⟩ := b.m
  refine ⟨⟨l1 ++ l2, by rw [e2, e1, List.append_assoc]⟩, fun c o h n => ?_, fun c h => ?_⟩
  · refine b.keep c o (a.keep c o h n) fun q => ?_
    rcases a.live c q with z | z
    · exact n z
    · rw [h] at z; cases z
  · rcases b.live c h with z | z
    · exact a.live c z
    · cases q : w.H c with
      | none => exact .inr rfl
      | some o =>
        by_cases n : w.live c
        · exact .inl n
        · rw [a.keep c o q n] at z; cases z
def OR (K : KM) (w : Wd) : Ob → Addr → Prop
  | .lst us, a => ∃ xs, w.H a = some (.lst xs) ∧ VRs K w us xs
  | .dic ks us, a => ∃ xs, w.H a = some (.dK (ks.zip xs)) ∧ ks.length = us.length ∧ VRs K w us xs
  | .ins c fs, a => ∃ C dx xs, K.mg c = some (.ref C) ∧ w.H a = some (.ins C dx ((fs.map (·.1)).zip xs)) ∧ VRs K w (fs.map (·.2)) xs
  | .kd ks us, a => ∃ L : List (NestedKey × Addr × V), w.H a = some (KdO K.P K.wd a L) ∧ VRs K w ks (L.map fun x => V.ref x.2.1) ∧ ks.map keyT = L.map (fun x => some x.1) ∧ VRs K w us (L.map (·.2.2))
  | .dead, _ => True
def MutO (o : HO) : Prop := (∃ xs, o = .lst xs) ∨ ∃ kvs, o = .dK kvs
def MutK (K : KM) (a : Addr) (o : HO) : Prop := MutO o ∨ (∃ C dx fs, o = .ins C dx fs) ∨ ∃ L, o = KdO K.P K.wd a L
structure SR (K : KM) (w : Wd) : Prop where
  len : w.m.length = w.S.length
  inj : ∀ (i j : Nat) (a : Addr) (o o' : Ob), w.m[i]? = some a → w.m[j]? = some a → w.S[i]? = some o → w.S[j]? = some o' → o ≠ Ob.dead → o' ≠ .dead → i = j
  obj : ∀ (n : Nat) (a : Addr) (o : Ob), w.m[n]? = some a → w.S[n]? = some o → OR K w o a
  rk : ∀ a ∈ w.r, ∃ o, w.H a = some o ∧ MutK K a o
  rd : ∀ a ∈ w.r, ¬ w.kept a
section
variable {K : KM} {w w' : Wd}
theorem SR.kind (s : SR K w) {a : Addr} (h : w.live a) : (∃ xs, w.H a = some (.lst xs)) ∨ (∃ kvs, w.H a = some (.dK kvs)) ∨ (∃ C dx fs, w.H a = some (.ins C dx fs)) ∨ ∃ L, w.H a = some (KdO K.P K.wd a L) := by
  rcases h with h | h
  · obtain ⟨o, e, m⟩ := s.rk a h
    rcases m with (⟨xs, q⟩ | ⟨xs, q⟩) | ⟨C, dx, fs, q⟩ | ⟨L, q⟩
    · exact .inl ⟨xs, by rw [← q]; exact e⟩
    · exact .inr (.inl ⟨xs, by rw [← q]; exact e⟩)
    · exact .inr (.inr (.inl ⟨C, dx, fs, by rw [← q]; exact e⟩))
    · exact .inr (.inr (.inr ⟨L, by rw [← q]; exact e⟩))
  obtain ⟨n, o, h1, h2, h3⟩ := h
  have q := s.obj n a o h1 h2
  cases o with
  | lst us => obtain ⟨xs, e, _⟩ := q; exact .inl ⟨xs, e⟩
  | dic ks us => obtain ⟨xs, e, _⟩ := q; exact .inr (.inl ⟨_, e⟩)
  | ins c fs => obtain ⟨C, dx, xs, _, e, _⟩ := q; exact .inr (.inr (.inl ⟨_, _, _, e⟩))
  | kd ks us => obtain ⟨L, e, _⟩ := q; exact .inr (.inr (.inr ⟨L, e⟩))
  | dead => exact absurd rfl h3
theorem SR.notup (s : SR K w) {a : Addr} {xs : List V} (e : w.H a = some (.tup xs)) : ¬ w.live a := fun h => by
  rcases s.kind h with ⟨_, q⟩ | ⟨_, q⟩ | ⟨_, _, _, q⟩ | ⟨_, q⟩ <;> (rw [e] at q; cases q)
theorem SR.nofrz (s : SR K w) {a : Addr} {o : Obj} {u : HO} (e : w.H a = some (.frz o u)) : ¬ w.live a := fun h => by
  rcases s.kind h with ⟨_, q⟩ | ⟨_, q⟩ | ⟨_, _, _, q⟩ | ⟨_, q⟩ <;> (rw [e] at q; cases q)
theorem SR.noexv (s : SR K w) {a b C d : Addr} (e : w.H a = some (exv b C d)) : ¬ w.live a := fun h => by
  rcases s.kind h with ⟨_, q⟩ | ⟨_, q⟩ | ⟨_, _, _, q⟩ | ⟨L, q⟩
  · unfold exv at e; rw [e] at q; cases q
  · unfold exv at e; rw [e] at q; cases q
  · unfold exv at e; rw [e] at q; cases q
  · rw [e] at q
    exact exv_kd (Option.some.inj q)
theorem SR.noxd (s : SR K w) {a : Addr} {fs : List (Str × V)} (e : w.H a = some (.xd fs)) : ¬ w.live a := fun h => by
  rcases s.kind h with ⟨_, q⟩ | ⟨_, q⟩ | ⟨_, _, _, q⟩ | ⟨_, q⟩ <;> (rw [e] at q; cases q)
theorem Ext.sqT (x : Ext w w') (s : SR K w) {a : Addr} {xs : List V} (h : TqT K w.H a xs) : TqT K w'.H a xs := by
  rcases h with h | h
  · exact .inl (x.keep _ _ h (s.notup h))
  · exact .inr h
theorem Ext.fz (x : Ext w w') (s : SR K w) {a : Addr} {xs : List V} (h : FzL K w.H a xs) : FzL K w'.H a xs := by
  rcases h with ⟨o, h⟩ | h
  · exact .inl ⟨o, x.keep _ _ h (s.nofrz h)⟩
  · exact .inr h
theorem Ext.dead (x : Ext w w') {a : Addr} {o : HO} (e : w.H a = some o) (n : ¬ w.live a) : ¬ w'.live a := fun h => by
  rcases x.live a h with z | z
  · exact n z
  · rw [e] at z; cases z
theorem Ext.at (x : Ext w w') {n : Nat} {a : Addr} (h : w.m[n]? = some a) : w'.m[n]? = some a := by
  obtain ⟨l, e⟩ := x.m
  rw [e]
  obtain ⟨hn, _⟩ := List.getElem?_eq_some_iff.mp h
  rw [List.getElem?_append_left hn]
  exact h
mutual
theorem VR.ext (x : Ext w w') (s : SR K w) : ∀ {u : U} {v : V}, VR K w u v → VR K w' u v
  | _, _, .non => .non
  | _, _, .bl b => .bl b
  | _, _, .int i => .int i
  | _, _, .str y => .str y
  | _, _, .tup h r => .tup (x.sqT s h) (VRs.ext x s r)
  | _, _, .lst h n r => .lst (x.keep _ _ h n) (x.dead h n) (VRs.ext x s r)
  | _, _, .frz h r => .frz (x.fz s h) (VRs.ext x s r)
  | _, _, .dic h n l r => .dic (x.keep _ _ h n) (x.dead h n) l (VRs.ext x s r)
  | _, _, .loc h => .loc (x.at h)
  | _, _, .ty n => .ty n
  | _, _, .exc h h2 c r => .exc (x.keep _ _ h (s.noexv h)) (x.keep _ _ h2 (s.noxd h2)) c (VR.ext x s r)
  | _, _, .cl h => .cl h
theorem VRs.ext (x : Ext w w') (s : SR K w) : ∀ {us : List U} {vs : List V}, VRs K w us vs → VRs K w' us vs
  | _, _, .nil => .nil
  | _, _, .cons h r => .cons (VR.ext x s h) (VRs.ext x s r)
end
theorem VRs.length : ∀ {us : List U} {vs : List V}, VRs K w us vs → us.length = vs.length
  | _, _, .nil => rfl
  | _, _, .cons _ r => by rw [List.length_cons, List.length_cons, VRs.length r]
theorem VRs.get : ∀ {us : List U} {vs : List V} {i : Nat} {u : U}, VRs K w us vs → us[i]? = some u → ∃ v, vs[i]? = some v ∧ VR K w u v
  | _, _, _, _, .nil, e => by simp at e
  | _, _, 0, _, .cons r _, e => by simp at e; subst e; exact ⟨_, rfl, r⟩
  | _, _, i + 1, u, .cons _ t, e => by
    obtain ⟨v, h1, h2⟩ := VRs.get (i := i) (u := u) t (by simpa using e)
    exact ⟨v, by simpa using h1, h2⟩
theorem VRs.get' : ∀ {us : List U} {vs : List V} {i : Nat} {v : V}, VRs K w us vs → vs[i]? = some v → ∃ u, us[i]? = some u ∧ VR K w u v
  | _, _, _, _, .nil, e => by simp at e
  | _, _, 0, _, .cons r _, e => by simp at e; subst e; exact ⟨_, rfl, r⟩
  | _, _, i + 1, v, .cons _ t, e => by
    obtain ⟨u, h1, h2⟩ := VRs.get' (i := i) (v := v) t (by simpa using e)
    exact ⟨u, by simpa using h1, h2⟩
theorem VRs.append : ∀ {us us' : List U} {vs vs' : List V}, VRs K w us vs → VRs K w us' vs' → VRs K w (us ++ us') (vs ++ vs')
  | _, _, _, _, .nil, s => s
  | _, _, _, _, .cons r t, s => .cons r (VRs.append t s)
theorem VRs.take : ∀ {us : List U} {vs : List V} (n : Nat), VRs K w us vs → VRs K w (us.take n) (vs.take n)
  | _, _, 0, _ => by rw [List.take_zero, List.take_zero]; exact .nil
  | _, _, _ + 1, .nil => by rw [List.take_nil, List.take_nil]; exact .nil
  | _, _, n + 1, .cons r t => by rw [List.take_succ_cons, List.take_succ_cons]; exact .cons r (VRs.take n t)
theorem VRs.drop : ∀ {us : List U} {vs : List V} (n : Nat), VRs K w us vs → VRs K w (us.drop n) (vs.drop n)
  | _, _, 0, r => by rw [List.drop_zero, List.drop_zero]; exact r
  | _, _, _ + 1, .nil => by rw [List.drop_nil, List.drop_nil]; exact .nil
  | _, _, n + 1, .cons _ t => by rw [List.drop_succ_cons, List.drop_succ_cons]; exact VRs.drop n t
theorem VRs.set {u : U} {v : V} (r : VR K w u v) : ∀ {us : List U} {vs : List V} (i : Nat), VRs K w us vs → VRs K w (us.set i u) (vs.set i v)
  | _, _, _, .nil => by rw [List.set_nil, List.set_nil]; exact .nil
  | _, _, 0, .cons _ t => .cons r t
  | _, _, i + 1, .cons q t => .cons q (VRs.set r i t)
theorem VRs.snoc {us : List U} {vs : List V} {u : U} {v : V} (h : VRs K w us vs) (r : VR K w u v) : VRs K w (us ++ [u]) (vs ++ [v]) := h.append (.cons r .nil)
def Wd.new (w : Wd) (p : Addr) (o : HO) : Wd := ⟨w.m, w.S, upd w.H p o, w.r⟩
def Wd.push (w : Wd) (p : Addr) (o : HO) (b : Ob) : Wd := ⟨w.m ++ [p], w.S ++ [b], upd w.H p o, w.r⟩
def Wd.put (w : Wd) (n : Nat) (a : Addr) (o : HO) (b : Ob) : Wd := ⟨w.m, w.S.set n b, upd w.H a o, w.r⟩
def Wd.ice (w : Wd) (n : Nat) : Wd := ⟨w.m, w.S.set n .dead, w.H, w.r⟩
theorem SR.tracked (s : SR K w) {a : Addr} (h : w.live a) : w.H a ≠ none := fun e => by
  rcases s.kind h with ⟨_, q⟩ | ⟨_, q⟩ | ⟨_, _, _, q⟩ | ⟨_, q⟩ <;> (rw [e] at q; cases q)
theorem Ext.new (s : SR K w) {p : Addr} {o : HO} (hp : w.H p = none) : Ext w (w.new p o) :=
  ⟨⟨[], (List.append_nil _).symm⟩, fun a u h _ => by
    show upd w.H p o a = some u
    rw [upd_ne (ne_of_none h hp)]; exact h, fun _ h => .inl h⟩
theorem OR.ext (x : Ext w w') (s : SR K w) {o : Ob} {a : Addr} (h : OR K w o a) (e : w'.H a = w.H a) : OR K w' o a := by
  cases o with
  | lst us => obtain ⟨xs, q, r⟩ := h; exact ⟨xs, e.trans q, r.ext x s⟩
  | dic ks us => obtain ⟨xs, q, l, r⟩ := h; exact ⟨xs, e.trans q, l, r.ext x s⟩
  | ins c fs => obtain ⟨C, dx, xs, m, q, r⟩ := h; exact ⟨C, dx, xs, m, e.trans q, r.ext x s⟩
  | kd ks us => obtain ⟨L, q, r1, r2, r3⟩ := h; exact ⟨L, e.trans q, r1.ext x s, r2, r3.ext x s⟩
  | dead => trivial
theorem SR.new (s : SR K w) {p : Addr} {o : HO} (hp : w.H p = none) : SR K (w.new p o) := by
  have x := Ext.new s (o := o) hp
  refine ⟨s.len, s.inj, fun n a b h1 h2 => ?_, fun a h => ?_, s.rd⟩
  · by_cases hb : b = .dead
    · subst hb; trivial
    · refine (s.obj n a b h1 h2).ext x s ?_
      show upd w.H p o a = w.H a
      rw [upd_ne fun e => ?_]
      subst e
      exact s.tracked (.inr ⟨n, b, h1, h2, hb⟩) hp
  · obtain ⟨xs, e, mo⟩ := s.rk a h
    exact ⟨xs, by show upd w.H p o a = _; rw [upd_ne (ne_of_none e hp)]; exact e, mo⟩
theorem get_snoc {α : Type} {l : List α} {x y : α} {n : Nat} (h : (l ++ [x])[n]? = some y) : l[n]? = some y ∨ (n = l.length ∧ y = x) := by
  by_cases hn : n < l.length
  · rw [List.getElem?_append_left hn] at h; exact .inl h
  · rw [List.getElem?_append_right (by omega)] at h
    have e : n - l.length = 0 := by
      cases q : n - l.length with
      | zero => rfl
      | succ k => rw [q] at h; simp at h
    rw [e] at h
    simp at h
    exact .inr ⟨by omega, h.symm⟩
theorem Wd.kept_push {p a : Addr} {o : HO} {b : Ob} (hl : w.m.length = w.S.length) (h : (w.push p o b).kept a) : w.kept a ∨ a = p := by
  obtain ⟨n, c, h1, h2, h3⟩ := h
  have h1 : (w.m ++ [p])[n]? = some a := h1
  have h2 : (w.S ++ [b])[n]? = some c := h2
  rcases get_snoc h1 with z | ⟨z, e⟩
  · rcases get_snoc h2 with y | ⟨y, _⟩
    · exact .inl ⟨n, c, z, y, h3⟩
    · have := (List.getElem?_eq_some_iff.mp z).1
      omega
  · exact .inr e
theorem Wd.live_push {p a : Addr} {o : HO} {b : Ob} (hl : w.m.length = w.S.length) (h : (w.push p o b).live a) : w.live a ∨ a = p := by
  rcases h with h | h
  · exact .inl (.inl h)
  · rcases Wd.kept_push hl h with z | z
    · exact .inl (.inr z)
    · exact .inr z
theorem Ext.push (s : SR K w) {p : Addr} {o : HO} {b : Ob} (hp : w.H p = none) : Ext w (w.push p o b) := by
  refine ⟨⟨[p], rfl⟩, fun a u h _ => ?_, fun a h => ?_⟩
  · show upd w.H p o a = some u
    rw [upd_ne (ne_of_none h hp)]; exact h
  · rcases Wd.live_push s.len h with z | z
    · exact .inl z
    · subst z; exact .inr hp
theorem SR.push (s : SR K w) {p : Addr} {o : HO} {b : Ob} (hp : w.H p = none) (hb : OR K (w.push p o b) b p) : SR K (w.push p o b) := by
  have x := Ext.push s (o := o) (b := b) hp
  have old : ∀ {n : Nat} {a : Addr} {c : Ob}, w.m[n]? = some a → w.S[n]? = some c → c ≠ Ob.dead → a ≠ p := fun {n a c} h1 h2 h3 e => by
    subst e
    exact s.tracked (.inr ⟨n, c, h1, h2, h3⟩) hp
  refine ⟨by show (w.m ++ [p]).length = (w.S ++ [b]).length; simp [s.len], fun i j a c c' h1 h2 h3 h4 d d' => ?_, fun n a c h1 h2 => ?_, fun a h => ?_, fun a h q => ?_⟩
  · have h1 : (w.m ++ [p])[i]? = some a := h1
    have h2 : (w.m ++ [p])[j]? = some a := h2
    have h3 : (w.S ++ [b])[i]? = some c := h3
    have h4 : (w.S ++ [b])[j]? = some c' := h4
    have hl := s.len
    rcases get_snoc h1 with z1 | ⟨z1, e1⟩ <;> rcases get_snoc h2 with z2 | ⟨z2, e2⟩ <;> rcases get_snoc h3 with z3 | ⟨z3, e3⟩ <;> rcases get_snoc h4 with z4 | ⟨z4, e4⟩
    all_goals first
      | omega
      | exact s.inj i j a c c' z1 z2 z3 z4 d d'
      | exact absurd e2 (old z1 z3 d)
      | exact absurd e1 (old z2 z4 d')
      | (have := (List.getElem?_eq_some_iff.mp z1).1; omega)
      | (have := (List.getElem?_eq_some_iff.mp z2).1; omega)
      | (have := (List.getElem?_eq_some_iff.mp z3).1; omega)
      | (have := (List.getElem?_eq_some_iff.mp z4).1; omega)
  · have h1 : (w.m ++ [p])[n]? = some a := h1
    have h2 : (w.S ++ [b])[n]? = some c := h2
    have hl := s.len
    rcases get_snoc h1 with z1 | ⟨z1, e1⟩
    · rcases get_snoc h2 with z2 | ⟨z2, e2⟩
      · by_cases hc : c = .dead
        · subst hc; trivial
        · refine (s.obj n a c z1 z2).ext x s ?_
          show upd w.H p o a = w.H a
          rw [upd_ne (old z1 z2 hc)]
      · have := (List.getElem?_eq_some_iff.mp z1).1
        omega
    · rcases get_snoc h2 with z2 | ⟨z2, e2⟩
      · have := (List.getElem?_eq_some_iff.mp z2).1
        omega
      · subst e1 e2; exact hb
  · obtain ⟨xs, e, mo⟩ := s.rk a h
    exact ⟨xs, by show upd w.H p o a = _; rw [upd_ne (ne_of_none e hp)]; exact e, mo⟩
  · rcases Wd.kept_push s.len q with z | z
    · exact s.rd a h z
    · subst z
      exact s.tracked (.inl h) hp
theorem get_set {α : Type} {l : List α} {x y : α} {n k : Nat} (h : (l.set n x)[k]? = some y) : (k = n ∧ y = x) ∨ (k ≠ n ∧ l[k]? = some y) := by
  by_cases e : k = n
  · subst e
    by_cases hk : k < l.length
    · rw [List.getElem?_set_self hk] at h; exact .inl ⟨rfl, (Option.some.inj h).symm⟩
    · rw [List.getElem?_eq_none (by simpa using hk)] at h; cases h
  · rw [List.getElem?_set_ne (Ne.symm e)] at h; exact .inr ⟨e, h⟩
theorem Wd.kept_set {n : Nat} {a c : Addr} {b : Ob} {H' : Hp} {r' : List Addr} (hm : w.m[n]? = some a) (hl : w.kept a) (h : (⟨w.m, w.S.set n b, H', r'⟩ : Wd).kept c) : w.kept c := by
  obtain ⟨k, o, h1, h2, h3⟩ := h
  have h1 : w.m[k]? = some c := h1
  rcases get_set h2 with ⟨e, _⟩ | ⟨_, z⟩
  · subst e; rw [hm] at h1; cases h1; exact hl
  · exact ⟨k, o, h1, z, h3⟩
theorem Ext.put (s : SR K w) {n : Nat} {a : Addr} {o : HO} {b b0 : Ob} (hm : w.m[n]? = some a) (hS : w.S[n]? = some b0) (hd : b0 ≠ Ob.dead) : Ext w (w.put n a o b) := by
  have hl : w.kept a := ⟨n, b0, hm, hS, hd⟩
  refine ⟨⟨[], (List.append_nil _).symm⟩, fun c u h nl => ?_, fun c h => .inl (h.elim .inl fun q => .inr (Wd.kept_set hm hl q))⟩
  show upd w.H a o c = some u
  rw [upd_ne fun e => nl (by subst e; exact .inr hl)]; exact h
theorem SR.put (s : SR K w) {n : Nat} {a : Addr} {o : HO} {b b0 : Ob} (hm : w.m[n]? = some a) (hS : w.S[n]? = some b0) (hd : b0 ≠ Ob.dead) (hb : OR K (w.put n a o b) b a) : SR K (w.put n a o b) := by
  have x := Ext.put s (o := o) (b := b) hm hS hd
  refine ⟨by show w.m.length = (w.S.set n b).length; simp [s.len], fun i j c d d' h1 h2 h3 h4 e e' => ?_, fun k c d h1 h2 => ?_, fun c h => ?_, fun c h q => s.rd c h (Wd.kept_set hm ⟨n, b0, hm, hS, hd⟩ q)⟩
  · have h1 : w.m[i]? = some c := h1
    have h2 : w.m[j]? = some c := h2
    have old : ∀ {k : Nat} {d : Ob}, (w.S.set n b)[k]? = some d → d ≠ Ob.dead → ∃ d0, w.S[k]? = some d0 ∧ d0 ≠ Ob.dead := fun {k d} q nd => by
      rcases get_set q with ⟨z, _⟩ | ⟨_, z⟩
      · subst z; exact ⟨b0, hS, hd⟩
      · exact ⟨d, z, nd⟩
    obtain ⟨p1, q1, r1⟩ := old h3 e
    obtain ⟨p2, q2, r2⟩ := old h4 e'
    exact s.inj i j c p1 p2 h1 h2 q1 q2 r1 r2
  · have h1 : w.m[k]? = some c := h1
    rcases get_set h2 with ⟨z, y⟩ | ⟨z, y⟩
    · subst z y
      have e := hm.symm.trans h1
      cases e
      exact hb
    · by_cases hc : d = .dead
      · subst hc; trivial
      · refine (s.obj k c d h1 y).ext x s ?_
        show upd w.H a o c = w.H c
        rw [upd_ne fun e => z ?_]
        subst e
        exact s.inj k n c d b0 h1 hm y hS hc hd
  · obtain ⟨xs, e, mo⟩ := s.rk c h
    refine ⟨xs, ?_, mo⟩
    show upd w.H a o c = _
    rw [upd_ne fun z => s.rd c h (by subst z; exact ⟨n, b0, hm, hS, hd⟩)]; exact e
theorem Wd.kept_ice {n : Nat} {c : Addr} (h : (w.ice n).kept c) : w.kept c := by
  obtain ⟨k, o, h1, h2, h3⟩ := h
  rcases get_set (show (w.S.set n .dead)[k]? = some o from h2) with ⟨_, e⟩ | ⟨_, z⟩
  · exact absurd e h3
  · exact ⟨k, o, h1, z, h3⟩
theorem Ext.ice (w : Wd) (n : Nat) : Ext w (w.ice n) := by
  exact ⟨⟨[], (List.append_nil _).symm⟩, fun _ _ h _ => h, fun c h => .inl (h.elim .inl fun q => .inr (Wd.kept_ice q))⟩
theorem SR.ice (s : SR K w) (n : Nat) : SR K (w.ice n) := by
  have x := Ext.ice w n
  have old : ∀ {k : Nat} {d : Ob}, (w.S.set n .dead)[k]? = some d → d ≠ Ob.dead → w.S[k]? = some d := fun {k d} q nd => by
    rcases get_set q with ⟨_, z⟩ | ⟨_, z⟩
    · exact absurd z nd
    · exact z
  refine ⟨by show w.m.length = (w.S.set n .dead).length; simp [s.len], fun i j c d d' h1 h2 h3 h4 e e' => s.inj i j c d d' h1 h2 (old h3 e) (old h4 e') e e', fun k c d h1 h2 => ?_, s.rk, fun c h q => s.rd c h (Wd.kept_ice q)⟩
  by_cases hc : d = .dead
  · subst hc; trivial
  · exact (s.obj k c d h1 (old h2 hc)).ext x s rfl
theorem live_ice (s : SR K w) {n : Nat} {a : Addr} {b : Ob} (hm : w.m[n]? = some a) (hS : w.S[n]? = some b) (hd : b ≠ Ob.dead) : ¬ (w.ice n).live a := fun h => by
  rcases h with h | h
  · exact s.rd a h ⟨n, b, hm, hS, hd⟩
  obtain ⟨k, o, h1, h2, h3⟩ := h
  have h1 : w.m[k]? = some a := h1
  rcases get_set (show (w.S.set n .dead)[k]? = some o from h2) with ⟨_, e⟩ | ⟨z, y⟩
  · exact h3 e
  · exact z (s.inj k n a o b h1 hm y hS h3 hd)
def Wd.hold (w : Wd) (D : Addr) (o : HO) : Wd := ⟨w.m, w.S, upd w.H D o, D :: w.r⟩
def Wd.grow (w : Wd) (D : Addr) (xs : List V) : Wd := ⟨w.m, w.S, upd w.H D (.lst xs), w.r⟩
theorem Ext.hold (s : SR K w) {D : Addr} {o : HO} (hp : w.H D = none) : Ext w (w.hold D o) := by
  refine ⟨⟨[], (List.append_nil _).symm⟩, fun a u h _ => ?_, fun a h => ?_⟩
  · show upd w.H D _ a = some u
    rw [upd_ne (ne_of_none h hp)]; exact h
  · rcases h with h | h
    · rcases List.mem_cons.mp h with z | z
      · subst z; exact .inr hp
      · exact .inl (.inl z)
    · exact .inl (.inr h)
theorem SR.hold (s : SR K w) {D : Addr} {o : HO} (hp : w.H D = none) (mo : MutO o) : SR K (w.hold D o) := by
  have x := Ext.hold s (o := o) hp
  have nd : ∀ {a : Addr}, w.live a → a ≠ D := fun {a} h e => by subst e; exact s.tracked h hp
  refine ⟨s.len, s.inj, fun n a b h1 h2 => ?_, fun a h => ?_, fun a h q => ?_⟩
  · by_cases hb : b = .dead
    · subst hb; trivial
    · refine (s.obj n a b h1 h2).ext x s ?_
      show upd w.H D _ a = w.H a
      rw [upd_ne (nd (.inr ⟨n, b, h1, h2, hb⟩))]
  · rcases List.mem_cons.mp h with z | z
    · subst z; exact ⟨o, upd_same, .inl mo⟩
    · obtain ⟨ys, e, mo'⟩ := s.rk a z
      exact ⟨ys, by show upd w.H D _ a = _; rw [upd_ne (ne_of_none e hp)]; exact e, mo'⟩
  · rcases List.mem_cons.mp h with z | z
    · subst z; exact s.tracked (.inr q) hp
    · exact s.rd a z q
theorem Ext.grow {D : Addr} {xs : List V} (hD : D ∈ w.r) : Ext w (w.grow D xs) :=
  ⟨⟨[], (List.append_nil _).symm⟩, fun a u h nl => by
    show upd w.H D _ a = some u
    rw [upd_ne fun e => nl (by subst e; exact .inl hD)]; exact h, fun _ h => .inl h⟩
theorem SR.grow (s : SR K w) {D : Addr} {xs : List V} (hD : D ∈ w.r) : SR K (w.grow D xs) := by
  have x := Ext.grow (xs := xs) hD
  refine ⟨s.len, s.inj, fun n a b h1 h2 => ?_, fun a h => ?_, s.rd⟩
  · by_cases hb : b = .dead
    · subst hb; trivial
    · refine (s.obj n a b h1 h2).ext x s ?_
      show upd w.H D _ a = w.H a
      rw [upd_ne fun e => s.rd D hD (by subst e; exact ⟨n, b, h1, h2, hb⟩)]
  · by_cases e : a = D
    · subst e; exact ⟨_, upd_same, .inl (.inl ⟨xs, rfl⟩)⟩
    · obtain ⟨ys, q, mo⟩ := s.rk a h
      exact ⟨ys, by show upd w.H D _ a = _; rw [upd_ne e]; exact q, mo⟩
theorem let_go_r {D : Addr} {l : List Addr} (h : D ∉ l) : (D :: l).filter (fun a => decide (a ≠ D)) = l := by
  rw [List.filter_cons_of_neg (by simp)]
  exact List.filter_eq_self.mpr fun a ha => decide_eq_true fun e => h (by subst e; exact ha)
structure Stp (w w' : Wd) : Prop where
  x : Ext w w'
  r : w'.r = w.r
  k : ∀ a ∈ w.r, w'.H a = w.H a
theorem Stp.refl (w : Wd) : Stp w w := ⟨Ext.refl w, rfl, fun _ _ => rfl⟩
theorem Stp.trans {w w1 w2 : Wd} (a : Stp w w1) (b : Stp w1 w2) : Stp w w2 := ⟨a.x.trans b.x, b.r.trans a.r, fun c h => (b.k c (by rw [a.r]; exact h)).trans (a.k c h)⟩
theorem Stp.new (s : SR K w) {p : Addr} {o : HO} (hp : w.H p = none) : Stp w (w.new p o) := ⟨Ext.new s hp, rfl, fun a h => by
  show upd w.H p o a = w.H a
  rw [upd_ne fun e => s.tracked (.inl h) (by rw [e]; exact hp)]⟩
theorem Stp.push (s : SR K w) {p : Addr} {o : HO} {b : Ob} (hp : w.H p = none) : Stp w (w.push p o b) := ⟨Ext.push s hp, rfl, fun a h => by
  show upd w.H p o a = w.H a
  rw [upd_ne fun e => s.tracked (.inl h) (by rw [e]; exact hp)]⟩
theorem Stp.put (s : SR K w) {n : Nat} {a : Addr} {o : HO} {b b0 : Ob} (hm : w.m[n]? = some a) (hS : w.S[n]? = some b0) (hd : b0 ≠ .dead) : Stp w (w.put n a o b) := ⟨Ext.put s hm hS hd, rfl, fun c h => by
  show upd w.H a o c = w.H c
  rw [upd_ne fun e => s.rd c h (by rw [e]; exact ⟨n, b0, hm, hS, hd⟩)]⟩
theorem Stp.ice (w : Wd) (n : Nat) : Stp w (w.ice n) := ⟨Ext.ice w n, rfl, fun _ _ => rfl⟩
def Wd.cut (w : Wd) (D : Addr) : Wd := ⟨w.m, w.S, fun b => if b = D then none else w.H b, w.r.filter fun a => decide (a ≠ D)⟩
theorem cut_at {D a : Addr} (h : a ≠ D) : (w.cut D).H a = w.H a := if_neg h
theorem cut_D {D : Addr} : (w.cut D).H D = none := if_pos rfl
theorem cut_back {D : Addr} {o : HO} (h : w.H D = some o) : upd (w.cut D).H D o = w.H := by
  funext b
  by_cases e : b = D
  · subst e; rw [upd_same, h]
  · rw [upd_ne e, cut_at e]
theorem live_cut {D a : Addr} (h : (w.cut D).live a) : w.live a := h.elim (fun q => .inl (List.mem_filter.mp q).1) .inr
mutual
theorem VR.cut (s : SR K w) {D : Addr} (hD : w.live D) : ∀ {u : U} {v : V}, VR K w u v → VR K (w.cut D) u v
  | _, _, .non => .non
  | _, _, .bl b => .bl b
  | _, _, .int i => .int i
  | _, _, .str y => .str y
  | _, _, .tup h r => .tup (h.imp (fun q => (cut_at (fun e => s.notup (by rw [← e]; exact q) hD)).trans q) id) (VRs.cut s hD r)
  | _, _, .lst h n r => .lst ((cut_at (fun e => n (by rw [e]; exact hD))).trans h) (fun q => n (live_cut q)) (VRs.cut s hD r)
  | _, _, .frz h r => .frz (h.imp (fun ⟨o, q⟩ => ⟨o, (cut_at (fun e => s.nofrz (by rw [← e]; exact q) hD)).trans q⟩) id) (VRs.cut s hD r)
  | _, _, .dic h n l r => .dic ((cut_at (fun e => n (by rw [e]; exact hD))).trans h) (fun q => n (live_cut q)) l (VRs.cut s hD r)
  | _, _, .loc h => .loc h
  | _, _, .ty n => .ty n
  | _, _, .exc h h2 c r => .exc ((cut_at (fun e => s.noexv (by rw [← e]; exact h) hD)).trans h) ((cut_at (fun e => s.noxd (by rw [← e]; exact h2) hD)).trans h2) c (VR.cut s hD r)
  | _, _, .cl h => .cl h
theorem VRs.cut (s : SR K w) {D : Addr} (hD : w.live D) : ∀ {us : List U} {vs : List V}, VRs K w us vs → VRs K (w.cut D) us vs
  | _, _, .nil => .nil
  | _, _, .cons h r => .cons (VR.cut s hD h) (VRs.cut s hD r)
end
theorem SR.cut (s : SR K w) {D : Addr} (hD : D ∈ w.r) : SR K (w.cut D) := by
  have ne : ∀ {n : Nat} {a : Addr} {o : Ob}, w.m[n]? = some a → w.S[n]? = some o → o ≠ Ob.dead → a ≠ D := fun {n a o} h1 h2 h3 e => s.rd D hD (by rw [← e]; exact ⟨n, o, h1, h2, h3⟩)
  refine ⟨s.len, s.inj, fun n a o h1 h2 => ?_, fun a h => ?_, fun a h q => s.rd a (List.mem_filter.mp h).1 q⟩
  · have q := s.obj n a o h1 h2
    cases o with
    | lst us => obtain ⟨xs, e, r⟩ := q; exact ⟨xs, (cut_at (ne h1 h2 (by intro z; cases z))).trans e, r.cut s (.inl hD)⟩
    | dic ks us => obtain ⟨xs, e, l, r⟩ := q; exact ⟨xs, (cut_at (ne h1 h2 (by intro z; cases z))).trans e, l, r.cut s (.inl hD)⟩
    | ins c fs => obtain ⟨C, dx, xs, m, e, r⟩ := q; exact ⟨C, dx, xs, m, (cut_at (ne h1 h2 (by intro z; cases z))).trans e, r.cut s (.inl hD)⟩
    | kd ks us => obtain ⟨L, e, r1, r2, r3⟩ := q; exact ⟨L, (cut_at (ne h1 h2 (by intro z; cases z))).trans e, r1.cut s (.inl hD), r2, r3.cut s (.inl hD)⟩
    | dead => trivial
  · obtain ⟨h1, h2⟩ := List.mem_filter.mp h
    obtain ⟨xs, e, mo'⟩ := s.rk a h1
    exact ⟨xs, (cut_at (of_decide_eq_true h2)).trans e, mo'⟩
theorem Ext.cut {w1 : Wd} {D : Addr} (x : Ext w1 w) (h0 : w1.H D = none) : Ext w1 (w.cut D) :=
  ⟨x.m, fun a o h n => (cut_at (ne_of_none h h0)).trans (x.keep a o h n), fun a h => x.live a (live_cut h)⟩
structure ER (K : KM) (w : Wd) (d : En) (σ : St) : Prop where
  len : d.length = σ.length
  get : ∀ (i : Nat) (u : U), d[i]? = some (some u) → ∃ v, σ[i]? = some (some v) ∧ VR K w u v
theorem ER.ext {d : En} {σ : St} (x : Ext w w') (s : SR K w) (e : ER K w d σ) : ER K w' d σ :=
  ⟨e.len, fun i u h => let ⟨v, h1, h2⟩ := e.get i u h; ⟨v, h1, h2.ext x s⟩⟩
theorem ER.set {d : En} {σ : St} {u : U} {v : V} (e : ER K w d σ) (i : Nat) (r : VR K w u v) : ER K w (d.set i (some u)) (σ.set i (some v)) := by
  refine ⟨by simp [e.len], fun j y h => ?_⟩
  rcases get_set h with ⟨z, q⟩ | ⟨z, q⟩
  · subst z
    cases q
    have hj : j < σ.length := by
      have := (List.getElem?_eq_some_iff.mp h).1
      simpa [e.len] using this
    exact ⟨v, List.getElem?_set_self hj, r⟩
  · obtain ⟨x, h1, h2⟩ := e.get j y q
    exact ⟨x, by rw [List.getElem?_set_ne (Ne.symm z)]; exact h1, h2⟩
theorem ER.forget {d : En} {σ : St} (e : ER K w d σ) (i : Nat) (o : Option V) : ER K w (d.set i none) (σ.set i o) := by
  refine ⟨by simp [e.len], fun j y h => ?_⟩
  rcases get_set h with ⟨z, q⟩ | ⟨z, q⟩
  · cases q
  · obtain ⟨x, h1, h2⟩ := e.get j y q
    exact ⟨x, by rw [List.getElem?_set_ne (Ne.symm z)]; exact h1, h2⟩
def enStart (n : Nat) (us : List U) : En := us.map some ++ List.replicate (n - us.length) none
theorem ER.start {N : List Str} {us : List U} {vs : List V} (r : VRs K w us vs) : ER K w (enStart N.length us) (start N vs) := by
  refine ⟨by simp [enStart, L2.start, r.length], fun i u h => ?_⟩
  unfold enStart at h
  by_cases hi : i < us.length
  · rw [List.getElem?_append_left (by simpa using hi), List.getElem?_map] at h
    cases q : us[i]? with
    | none => rw [q] at h; cases h
    | some y =>
      rw [q] at h
      cases h
      obtain ⟨v, h1, h2⟩ := r.get q
      refine ⟨v, ?_, h2⟩
      unfold L2.start
      rw [List.getElem?_append_left (by simpa [← r.length] using hi), List.getElem?_map, h1]
      rfl
  · rw [List.getElem?_append_right (by simpa using hi)] at h
    have := List.mem_of_getElem? h
    rw [List.mem_replicate] at this
    cases this.2
end
end DL
namespace DL
open PySem PySem.Spec L2
abbrev FE := En → Sto → R U
abbrev FT := En → Sto → R Bool
abbrev FA := En → Sto → R (List U)
inductive Fl where
  | nx (d : En) | rt (u : U) | bk (d : En) | ct (d : En) | ex (x : Exc) (d : En)
abbrev FS := En → Sto → R Fl
def XRel (K : KM) (w : Wd) (x : Exc) (cls : Value) (d : Option Addr) : Prop :=
  K.mg x.cls = some cls ∧ ∃ (dd : Addr) (v : V), d = some dd ∧ w.H dd = some (.xd [(x.fld, v)]) ∧ VR K w x.arg v
def XPost (X : Cx) (Wx : WX) (σ : L2.St) (w : Wd) (x : Exc) (S' : Sto) : Prop :=
  ∀ (w' : Wd) (cls : Value) (d : Option Addr), w'.S = S' → Stp w w' → SR (KMof X) w' → XRel (KMof X) w' x cls d → Wx cls d σ w'.H
def OkE (X : Cx) (w : Wd) (Q : VK) (u : U) (S' : Sto) : Prop :=
  ∀ (w' : Wd) (v : V), w'.S = S' → Stp w w' → SR (KMof X) w' → VR (KMof X) w' u v → Q v w'.H
def OkT (X : Cx) (w : Wd) (Q : Bool → Hp → Prop) (b : Bool) (S' : Sto) : Prop :=
  ∀ (w' : Wd), w'.S = S' → Stp w w' → SR (KMof X) w' → Q b w'.H
def OkA (X : Cx) (w : Wd) (Q : List V → Hp → Prop) (us : List U) (S' : Sto) : Prop :=
  ∀ (w' : Wd) (vs : List V), w'.S = S' → Stp w w' → SR (KMof X) w' → VRs (KMof X) w' us vs → Q vs w'.H
def OkL (X : Cx) (w : Wd) (Q : VK) (us : List U) (S' : Sto) : Prop :=
  ∀ (w' : Wd) (p : Addr) (xs : List V), w'.S = S' → Stp w w' → SR (KMof X) w' → VRs (KMof X) w' us xs → w'.H p = none → Q (.ref p) (upd w'.H p (.lst xs))
def OkS (X : Cx) (Wx : WX) (w : Wd) (D : Ends) (fl : Fl) (S' : Sto) : Prop :=
  ∀ (w' : Wd), w'.S = S' → Stp w w' → SR (KMof X) w' → match fl with
    | .nx d => ∀ σ', ER (KMof X) w' d σ' → D.nx σ' w'.H
    | .rt u => ∀ v, VR (KMof X) w' u v → D.rt v w'.H
    | .bk d => ∀ σ', ER (KMof X) w' d σ' → D.bk σ' w'.H
    | .ct d => ∀ σ', ER (KMof X) w' d σ' → D.ct σ' w'.H
    | .ex x d => ∀ σ', ER (KMof X) w' d σ' → ∀ (cls : Value) (dd : Option Addr), XRel (KMof X) w' x cls dd → Wx cls dd σ' w'.H
section
variable {X : Cx} {Wx : WX} {w w1 : Wd}
theorem XPost.up {σ : L2.St} {x : Exc} {S' : Sto} (h : XPost X Wx σ w x S') (st : Stp w w1) : XPost X Wx σ w1 x S' := fun w' cls d e s2 sr xr => h w' cls d e (st.trans s2) sr xr
theorem OkE.up {Q : VK} {u : U} {S' : Sto} (h : OkE X w Q u S') (st : Stp w w1) : OkE X w1 Q u S' := fun w' v e s2 sr r => h w' v e (st.trans s2) sr r
theorem OkT.up {Q : Bool → Hp → Prop} {u : Bool} {S' : Sto} (h : OkT X w Q u S') (st : Stp w w1) : OkT X w1 Q u S' := fun w' e s2 sr => h w' e (st.trans s2) sr
theorem OkA.up {Q : List V → Hp → Prop} {u : List U} {S' : Sto} (h : OkA X w Q u S') (st : Stp w w1) : OkA X w1 Q u S' := fun w' v e s2 sr r => h w' v e (st.trans s2) sr r
theorem OkL.up {Q : VK} {u : List U} {S' : Sto} (h : OkL X w Q u S') (st : Stp w w1) : OkL X w1 Q u S' := fun w' p xs e s2 sr r hp => h w' p xs e (st.trans s2) sr r hp
theorem OkS.up {D : Ends} {fl : Fl} {S' : Sto} (h : OkS X Wx w D fl S') (st : Stp w w1) : OkS X Wx w1 D fl S' := fun w' e s2 sr => h w' e (st.trans s2) sr
theorem OkE.here {Q : VK} {u : U} (h : OkE X w Q u w.S) (s : SR (KMof X) w) {v : V} (r : VR (KMof X) w u v) : Q v w.H := h w v rfl (Stp.refl w) s r
end
def tE (X : Cx) (Wx : WX) (f : FE) : TE := fun σ H Q => ∃ (w : Wd) (d : En), w.H = H ∧ SR (KMof X) w ∧ ER (KMof X) w d σ ∧ Pst (f d w.S) (OkE X w Q) (XPost X Wx σ w)
def tT (X : Cx) (Wx : WX) (f : FT) : TT := fun σ H Q => ∃ (w : Wd) (d : En), w.H = H ∧ SR (KMof X) w ∧ ER (KMof X) w d σ ∧ Pst (f d w.S) (OkT X w Q) (XPost X Wx σ w)
def tA (X : Cx) (Wx : WX) (f : FA) : TA := fun σ H Q => ∃ (w : Wd) (d : En), w.H = H ∧ SR (KMof X) w ∧ ER (KMof X) w d σ ∧ Pst (f d w.S) (OkA X w Q) (XPost X Wx σ w)
def tL (X : Cx) (Wx : WX) (f : FA) : TE := fun σ H Q => ∃ (w : Wd) (d : En), w.H = H ∧ SR (KMof X) w ∧ ER (KMof X) w d σ ∧ Pst (f d w.S) (OkL X w Q) (XPost X Wx σ w)
def tS (X : Cx) (Wx : WX) (f : FS) : TS := fun D σ H => ∃ (w : Wd) (d : En), w.H = H ∧ SR (KMof X) w ∧ ER (KMof X) w d σ ∧ Pst (f d w.S) (OkS X Wx w D) (fun _ _ => False)
def SimE (X : Cx) (Wx : WX) (e : Expr) (f : FE) : Prop := PE X e (tE X Wx f)
def SimT (X : Cx) (Wx : WX) (e : Expr) (f : FT) : Prop := PT X e (tT X Wx f)
def SimW (X : Cx) (Wx : WX) (e : Expr) (f : FT) : Prop := PW X e (tT X Wx f)
def SimA (X : Cx) (Wx : WX) (es : List Expr) (f : FA) : Prop := PA X es (tA X Wx f)
def SimL (X : Cx) (Wx : WX) (e : Expr) (f : FA) : Prop := PE X e (tL X Wx f)
def SimS (X : Cx) (Wx : WX) (st : Stmt) (f : FS) : Prop := PS X st (tS X Wx f)
def SimB (X : Cx) (Wx : WX) (sts : List Stmt) (f : FS) : Prop := PSs X sts (tS X Wx f)
section
variable {X : Cx} {Wx : WX} {e : Expr} {es : List Expr} {st : Stmt} {sts : List Stmt}
theorem SimE.out {f : FE} (h : SimE X Wx e f) : ∃ t, PE X e t ∧ ∀ (w : Wd) (d : En) (σ : L2.St) (Q : VK), SR (KMof X) w → ER (KMof X) w d σ → Pst (f d w.S) (OkE X w Q) (XPost X Wx σ w) → t σ w.H Q := ⟨_, h, fun w d _ _ s e p => ⟨w, d, rfl, s, e, p⟩⟩
theorem SimE.mk {f : FE} {t : TE} (p : PE X e t) (h : ∀ (w : Wd) (d : En) (σ : L2.St) (Q : VK), SR (KMof X) w → ER (KMof X) w d σ → Pst (f d w.S) (OkE X w Q) (XPost X Wx σ w) → t σ w.H Q) : SimE X Wx e f :=
  ⟨fun pins s σ H Q I ⟨w, d, e, sr, er, q⟩ => p.run pins s σ H Q I (by subst e; exact h w d σ Q sr er q)⟩
theorem SimL.out {f : FA} (h : SimL X Wx e f) : ∃ t, PE X e t ∧ ∀ (w : Wd) (d : En) (σ : L2.St) (Q : VK), SR (KMof X) w → ER (KMof X) w d σ → Pst (f d w.S) (OkL X w Q) (XPost X Wx σ w) → t σ w.H Q := ⟨_, h, fun w d _ _ s e p => ⟨w, d, rfl, s, e, p⟩⟩
theorem SimL.mk {f : FA} {t : TE} (p : PE X e t) (h : ∀ (w : Wd) (d : En) (σ : L2.St) (Q : VK), SR (KMof X) w → ER (KMof X) w d σ → Pst (f d w.S) (OkL X w Q) (XPost X Wx σ w) → t σ w.H Q) : SimL X Wx e f :=
  ⟨fun pins s σ H Q I ⟨w, d, e, sr, er, q⟩ => p.run pins s σ H Q I (by subst e; exact h w d σ Q sr er q)⟩
theorem SimT.out {f : FT} (h : SimT X Wx e f) : ∃ t, PT X e t ∧ ∀ (w : Wd) (d : En) (σ : L2.St) (Q : Bool → Hp → Prop), SR (KMof X) w → ER (KMof X) w d σ → Pst (f d w.S) (OkT X w Q) (XPost X Wx σ w) → t σ w.H Q := ⟨_, h, fun w d _ _ s e p => ⟨w, d, rfl, s, e, p⟩⟩
theorem SimT.mk {f : FT} {t : TT} (p : PT X e t) (h : ∀ (w : Wd) (d : En) (σ : L2.St) (Q : Bool → Hp → Prop), SR (KMof X) w → ER (KMof X) w d σ → Pst (f d w.S) (OkT X w Q) (XPost X Wx σ w) → t σ w.H Q) : SimT X Wx e f :=
  ⟨fun pins s σ H Q I ⟨w, d, e, sr, er, q⟩ => p.run pins s σ H Q I (by subst e; exact h w d σ Q sr er q)⟩
theorem SimW.out {f : FT} (h : SimW X Wx e f) : ∃ t, PW X e t ∧ ∀ (w : Wd) (d : En) (σ : L2.St) (Q : Bool → Hp → Prop), SR (KMof X) w → ER (KMof X) w d σ → Pst (f d w.S) (OkT X w Q) (XPost X Wx σ w) → t σ w.H Q := ⟨_, h, fun w d _ _ s e p => ⟨w, d, rfl, s, e, p⟩⟩
theorem SimW.mk {f : FT} {t : TT} (p : PW X e t) (h : ∀ (w : Wd) (d : En) (σ : L2.St) (Q : Bool → Hp → Prop), SR (KMof X) w → ER (KMof X) w d σ → Pst (f d w.S) (OkT X w Q) (XPost X Wx σ w) → t σ w.H Q) : SimW X Wx e f :=
  ⟨fun whole pins s σ H Q I ⟨w, d, e, sr, er, q⟩ => p.run whole pins s σ H Q I (by subst e; exact h w d σ Q sr er q)⟩
theorem SimA.out {f : FA} (h : SimA X Wx es f) : ∃ t, PA X es t ∧ ∀ (w : Wd) (d : En) (σ : L2.St) (Q : List V → Hp → Prop), SR (KMof X) w → ER (KMof X) w d σ → Pst (f d w.S) (OkA X w Q) (XPost X Wx σ w) → t σ w.H Q := ⟨_, h, fun w d _ _ s e p => ⟨w, d, rfl, s, e, p⟩⟩
theorem SimA.mk {f : FA} {t : TA} (p : PA X es t) (h : ∀ (w : Wd) (d : En) (σ : L2.St) (Q : List V → Hp → Prop), SR (KMof X) w → ER (KMof X) w d σ → Pst (f d w.S) (OkA X w Q) (XPost X Wx σ w) → t σ w.H Q) : SimA X Wx es f :=
  ⟨fun pos pins s σ H Q I ⟨w, d, e, sr, er, q⟩ => p.run pos pins s σ H Q I (by subst e; exact h w d σ Q sr er q)⟩
theorem SimS.out {f : FS} (h : SimS X Wx st f) : ∃ t, PS X st t ∧ ∀ (w : Wd) (d : En) (σ : L2.St) (D : Ends), SR (KMof X) w → ER (KMof X) w d σ → Pst (f d w.S) (OkS X Wx w D) (fun _ _ => False) → t D σ w.H := ⟨_, h, fun w d _ _ s e p => ⟨w, d, rfl, s, e, p⟩⟩
theorem SimS.mk {f : FS} {t : TS} (p : PS X st t) (h : ∀ (w : Wd) (d : En) (σ : L2.St) (D : Ends), SR (KMof X) w → ER (KMof X) w d σ → Pst (f d w.S) (OkS X Wx w D) (fun _ _ => False) → t D σ w.H) : SimS X Wx st f :=
  ⟨fun pins s σ H D I ⟨w, d, e, sr, er, q⟩ => p.run pins s σ H D I (by subst e; exact h w d σ D sr er q)⟩
theorem SimB.out {f : FS} (h : SimB X Wx sts f) : ∃ t, PSs X sts t ∧ ∀ (w : Wd) (d : En) (σ : L2.St) (D : Ends), SR (KMof X) w → ER (KMof X) w d σ → Pst (f d w.S) (OkS X Wx w D) (fun _ _ => False) → t D σ w.H := ⟨_, h, fun w d _ _ s e p => ⟨w, d, rfl, s, e, p⟩⟩
theorem SimB.mk {f : FS} {t : TS} (p : PSs X sts t) (h : ∀ (w : Wd) (d : En) (σ : L2.St) (D : Ends), SR (KMof X) w → ER (KMof X) w d σ → Pst (f d w.S) (OkS X Wx w D) (fun _ _ => False) → t D σ w.H) : SimB X Wx sts f :=
  ⟨fun pins s σ H D I ⟨w, d, e, sr, er, q⟩ => p.run pins s σ H D I (by subst e; exact h w d σ D sr er q)⟩
end
def fVar (i : Nat) : FE := fun d S => match d[i]? with
  | some (some u) => .ok u S
  | _ => .bad
def fC (u : U) : FE := fun _ S => .ok u S
section
variable {X : Cx} {Wx : WX}
theorem se_var (i : Nat) {x : Str} {pos : Pos} (hN : X.N[i]? = some x := by rfl) (hv : Vis X.env.scope x := by first | exact Or.inl rfl | exact Or.inr (Or.inl rfl) | exact Or.inr (Or.inr rfl))
    (hd : (x == ("__debug__" : Str)) = false := by decide) (hcd : (x == ("__classdict__" : Str)) = false := by decide) : SimE X Wx (.Name x pos) (fVar i) := by
  refine SimE.mk (pe_var hN hv hd hcd) (fun w d σ Q s e h => ?_)
  unfold fVar at h
  split at h
  · rename_i u hu
    obtain ⟨v, h1, h2⟩ := e.get i u hu
    exact ⟨v, h1, OkE.here h s h2⟩
  · exact h.elim
theorem se_int {i : Int} {j pos} : SimE X Wx (.Constant (.int i) j pos) (fC (.int i)) := SimE.mk (pe_int) (fun w d σ Q s e h => OkE.here h s (.int i))
theorem se_bl {b : Bool} {j pos} : SimE X Wx (.Constant (.bool b) j pos) (fC (.bl b)) := SimE.mk (pe_bl) (fun w d σ Q s e h => OkE.here h s (.bl b))
theorem se_non {j pos} : SimE X Wx (.Constant .none j pos) (fC .non) := SimE.mk (pe_non) (fun w d σ Q s e h => OkE.here h s .non)
theorem se_str {x : Str} {j pos} : SimE X Wx (.Constant (.str x) j pos) (fC (.str x)) := SimE.mk (pe_str) (fun w d σ Q s e h => OkE.here h s (.str x))
theorem se_glob {x : Str} {v : V} {u : U} {z : Value} {pos : Pos} (hg : Gl X x) (hm : X.mg x = some z) (r : RelV v z) (hv : ∀ w, VR (KMof X) w u v) (hd : (x == ("__debug__" : Str)) = false := by decide) : SimE X Wx (.Name x pos) (fC u) :=
  SimE.mk (pe_glob hg hm r hd) (fun w d σ Q s e h => OkE.here h s (hv w))
theorem se_bltn {x : Str} {v : V} {u : U} {z : Value} {pos : Pos} (hg : Gl X x) (hm : X.mg x = none) (hv : bootBuiltins x = some z) (r : RelV v z) (hr : ∀ w, VR (KMof X) w u v) (hn : x ≠ "__name__" := by decide) (hd : (x == ("__debug__" : Str)) = false := by decide) : SimE X Wx (.Name x pos) (fC u) :=
  SimE.mk (pe_bltn hg hm hv r hn hd) (fun w d σ Q s e h => OkE.here h s (hr w))
def OpSim (X : Cx) (F : Value → Value → Sem Value) (g : U → U → Sto → R U) : Prop := ∃ r, OpR X F r ∧
  ∀ (w : Wd) (x y : U) (v v' : V) (Q : VK), SR (KMof X) w → VR (KMof X) w x v → VR (KMof X) w y v' → Pst (g x y w.S) (OkE X w Q) (fun _ _ => False) → r v v' w.H Q
def f2 (g : U → U → Sto → R U) (fa fb : FE) : FE := fun d S => (fa d S).bind fun x S1 => (fb d S1).bind fun y S2 => g x y S2
def noX (r : R U) : Prop := match r with
  | .exc _ _ => False
  | _ => True
theorem pst_noX {r : R U} {P : U → Sto → Prop} {E : Exc → Sto → Prop} (h : Pst r P E) (n : noX r) : Pst r P (fun _ _ => False) := by
  cases r with
  | ok a S => exact h
  | exc x S => exact n
  | bad => exact h
theorem two {a b : Expr} {ta tb : TE} {fa fb : FE}
    (ha : ∀ (w : Wd) (d : En) (σ : L2.St) (Q : VK), SR (KMof X) w → ER (KMof X) w d σ → Pst (fa d w.S) (OkE X w Q) (XPost X Wx σ w) → ta σ w.H Q)
    (hb : ∀ (w : Wd) (d : En) (σ : L2.St) (Q : VK), SR (KMof X) w → ER (KMof X) w d σ → Pst (fb d w.S) (OkE X w Q) (XPost X Wx σ w) → tb σ w.H Q)
    {g : U → U → Sto → R U} {r : R2} (hg : ∀ (w : Wd) (x y : U) (v v' : V) (Q : VK), SR (KMof X) w → VR (KMof X) w x v → VR (KMof X) w y v' → Pst (g x y w.S) (OkE X w Q) (fun _ _ => False) → r v v' w.H Q) (hn : ∀ x y S, noX (g x y S))
    (w : Wd) (d : En) (σ : L2.St) (Q : VK) (s : SR (KMof X) w) (e : ER (KMof X) w d σ) (h : Pst (f2 g fa fb d w.S) (OkE X w Q) (XPost X Wx σ w)) :
    ta σ w.H fun x H1 => tb σ H1 fun y H2 => r x y H2 Q := by
  refine ha w d σ _ s e ((Pst.of_bind h).mono (fun x S1 h1 w1 v1 eS st s1 r1 => ?_) fun _ _ q => q)
  subst eS
  refine hb w1 d σ _ s1 (e.ext st.x s) ((Pst.of_bind h1).mono (fun y S2 h2 w2 v2 eS2 st2 s2 r2 => ?_) fun _ _ q => q.up st)
  subst eS2
  exact hg w2 x y v1 v2 Q s2 (r1.ext st2.x s1) r2 ((pst_noX h2 (hn x y w2.S)).mono (fun _ _ q => q.up (st.trans st2)) fun _ _ q => q)
theorem se_op {a b : Expr} {fa fb : FE} {op : Operator} {g : U → U → Sto → R U} {pos : Pos} (ho : OpSim X (binaryOp op) g) (hn : ∀ x y S, noX (g x y S)) (ha : SimE X Wx a fa) (hb : SimE X Wx b fb) : SimE X Wx (.BinOp a op b pos) (f2 g fa fb) := by
  obtain ⟨r, ho, hg⟩ := ho
  obtain ⟨ta, pa, ha⟩ := ha.out
  obtain ⟨tb, pb, hb⟩ := hb.out
  exact SimE.mk (pe_op ho pa pb) (fun w d σ Q s e h => two (a := a) (b := b) ha hb hg hn w d σ Q s e h)
theorem se_cmp {a b : Expr} {fa fb : FE} {op : CmpOp} {g : U → U → Sto → R U} {pos : Pos} (ho : OpSim X (compareOp op) g) (hn : ∀ x y S, noX (g x y S)) (ha : SimE X Wx a fa) (hb : SimE X Wx b fb) (hm : behindInMarks op b = false) : SimE X Wx (.Compare a [op] [b] pos) (f2 g fa fb) := by
  obtain ⟨r, ho, hg⟩ := ho
  obtain ⟨ta, pa, ha⟩ := ha.out
  obtain ⟨tb, pb, hb⟩ := hb.out
  exact SimE.mk (pe_cmpR ho pa pb hm) (fun w d σ Q s e h => two (a := a) (b := b) ha hb hg hn w d σ Q s e h)
def asB (r : R U) : R Bool := r.bind fun u S => match u with
  | .bl b => .ok b S
  | _ => .bad
theorem asB_post {r : R U} {w : Wd} {Q : Bool → Hp → Prop} {E : Exc → Sto → Prop} (h : Pst (asB r) (OkT X w Q) E) : Pst r (OkE X w fun x H => ∃ k, x = .bl k ∧ Q k H) E := by
  unfold asB at h
  refine (Pst.of_bind h).mono (fun u S h1 w1 v e st s1 rv => ?_) fun _ _ q => q
  cases rv with
  | bl b => exact ⟨b, rfl, h1 w1 e st s1⟩
  | _ => exact h1.elim
theorem st_cmp {a b : Expr} {fa fb : FE} {op : CmpOp} {g : U → U → Sto → R U} {pos : Pos} (ho : OpSim X (compareOp op) g) (hn : ∀ x y S, noX (g x y S)) (ha : SimE X Wx a fa) (hb : SimE X Wx b fb) (hm : behindInMarks op b = false) : SimT X Wx (.Compare a [op] [b] pos) (fun d S => asB (f2 g fa fb d S)) := by
  obtain ⟨r, ho, hg⟩ := ho
  obtain ⟨ta, pa, ha⟩ := ha.out
  obtain ⟨tb, pb, hb⟩ := hb.out
  exact SimT.mk (pt_cmpR ho pa pb hm) (fun w d σ Q s e h => two (a := a) (b := b) ha hb hg hn w d σ _ s e (asB_post h))
def fCh (g g' : U → U → Sto → R U) (fa fb fc : FE) : FE := fun d S => (fa d S).bind fun x S1 => (fb d S1).bind fun y S2 => (g x y S2).bind fun z S3 => match z with
  | .bl true => (fc d S3).bind fun t S4 => g' y t S4
  | .bl false => .ok (.bl false) S3
  | _ => .bad
theorem chain {a b c : Expr} {ta tb tc : TE} {fa fb fc : FE}
    (ha : ∀ (w : Wd) (d : En) (σ : L2.St) (Q : VK), SR (KMof X) w → ER (KMof X) w d σ → Pst (fa d w.S) (OkE X w Q) (XPost X Wx σ w) → ta σ w.H Q)
    (hb : ∀ (w : Wd) (d : En) (σ : L2.St) (Q : VK), SR (KMof X) w → ER (KMof X) w d σ → Pst (fb d w.S) (OkE X w Q) (XPost X Wx σ w) → tb σ w.H Q)
    (hc : ∀ (w : Wd) (d : En) (σ : L2.St) (Q : VK), SR (KMof X) w → ER (KMof X) w d σ → Pst (fc d w.S) (OkE X w Q) (XPost X Wx σ w) → tc σ w.H Q)
    {g g' : U → U → Sto → R U} {r r' : R2} (hg : ∀ (w : Wd) (x y : U) (v v' : V) (Q : VK), SR (KMof X) w → VR (KMof X) w x v → VR (KMof X) w y v' → Pst (g x y w.S) (OkE X w Q) (fun _ _ => False) → r v v' w.H Q) (hn : ∀ x y S, noX (g x y S))
    (hg' : ∀ (w : Wd) (x y : U) (v v' : V) (Q : VK), SR (KMof X) w → VR (KMof X) w x v → VR (KMof X) w y v' → Pst (g' x y w.S) (OkE X w Q) (fun _ _ => False) → r' v v' w.H Q) (hn' : ∀ x y S, noX (g' x y S))
    (w : Wd) (d : En) (σ : L2.St) (Q : VK) (s : SR (KMof X) w) (e : ER (KMof X) w d σ) (h : Pst (fCh g g' fa fb fc d w.S) (OkE X w Q) (XPost X Wx σ w)) : tChain r r' ta tb tc σ w.H Q := by
  refine ha w d σ _ s e ((Pst.of_bind h).mono (fun x S1 h1 w1 v1 eS st s1 r1 => ?_) fun _ _ q => q)
  subst eS
  have e1 := e.ext st.x s
  refine hb w1 d σ _ s1 e1 ((Pst.of_bind h1).mono (fun y S2 h2 w2 v2 eS2 st2 s2 r2 => ?_) fun _ _ q => q.up st)
  subst eS2
  have st02 := st.trans st2
  have e2 := e1.ext st2.x s1
  refine hg w2 x y v1 v2 _ s2 (r1.ext st2.x s1) r2 ((pst_noX (Pst.of_bind h2) (hn x y w2.S)).mono (fun z S3 h3 w3 v3 eS3 st3 s3 r3 => ?_) fun _ _ q => q)
  subst eS3
  have st03 := st02.trans st3
  have e3 := e2.ext st3.x s2
  cases r3 with
  | bl k =>
    refine ⟨k, rfl, ?_⟩
    cases k with
    | false => exact OkE.here (h3.up st03) s3 (.bl false)
    | true =>
      show tc σ w3.H fun w' H4 => r' v2 w' H4 Q
      have h3 : Pst ((fc d w3.S).bind fun t S4 => g' y t S4) (OkE X w Q) (XPost X Wx σ w) := h3
      refine hc w3 d σ _ s3 e3 ((Pst.of_bind h3).mono (fun t S4 h4 w4 v4 eS4 st4 s4 r4 => ?_) fun _ _ q => q.up st03)
      subst eS4
      exact hg' w4 y t v2 v4 Q s4 ((r2.ext st3.x s2).ext st4.x s3) r4 ((pst_noX h4 (hn' y t w4.S)).mono (fun _ _ q => q.up (st03.trans st4)) fun _ _ q => q)
  | _ => exact h3.elim
theorem st_chain {a b c : Expr} {fa fb fc : FE} {op op' : CmpOp} {g g' : U → U → Sto → R U} {pos : Pos} (ho : OpSim X (compareOp op) g) (hn : ∀ x y S, noX (g x y S)) (ho' : OpSim X (compareOp op') g') (hn' : ∀ x y S, noX (g' x y S))
    (ha : SimE X Wx a fa) (hb : SimE X Wx b fb) (hc : SimE X Wx c fc) (hm : lastMarks [op, op'] [b, c] = false := by with_unfolding_all rfl) : SimT X Wx (.Compare a [op, op'] [b, c] pos) (fun d S => asB (fCh g g' fa fb fc d S)) := by
  obtain ⟨r, ho, hg⟩ := ho
  obtain ⟨r', ho', hg'⟩ := ho'
  obtain ⟨ta, pa, ha⟩ := ha.out
  obtain ⟨tb, pb, hb⟩ := hb.out
  obtain ⟨tc, pc, hc⟩ := hc.out
  exact SimT.mk (pt_chain ho ho' pa pb pc hm) (fun w d σ Q s e h => chain (a := a) (b := b) (c := c) ha hb hc hg hn hg' hn' w d σ _ s e (asB_post h))
def f1 (g : U → Sto → R U) (fa : FE) : FE := fun d S => (fa d S).bind g
def UnSim (X : Cx) (F : Value → Sem Value) (g : U → Sto → R U) : Prop := ∃ r, UnR X F r ∧ (∀ x S, noX (g x S)) ∧ ∀ (w : Wd) (x : U) (v : V) (Q : VK), SR (KMof X) w → VR (KMof X) w x v → Pst (g x w.S) (OkE X w Q) (fun _ _ => False) → r v w.H Q
theorem se_un {a : Expr} {fa : FE} {op : UnaryOp} {g : U → Sto → R U} {pos : Pos} (ho : UnSim X (unaryOp op) g) (ha : SimE X Wx a fa) : SimE X Wx (.UnaryOp op a pos) (f1 g fa) := by
  obtain ⟨r, ho, hn, hg⟩ := ho
  obtain ⟨ta, pa, ha⟩ := ha.out
  refine SimE.mk (pe_un ho pa) (fun w d σ Q s e h => ?_)
  refine ha w d σ _ s e ((Pst.of_bind h).mono (fun x S1 h1 w1 v1 eS st s1 r1 => ?_) fun _ _ q => q)
  subst eS
  exact hg w1 x v1 Q s1 r1 ((pst_noX h1 (hn x w1.S)).mono (fun _ _ q => q.up st) fun _ _ q => q)
def truU (u : U) (S : Sto) : Option Bool := match u with
  | .non => some false
  | .bl b => some b
  | .int i => some (i != 0)
  | .str x => if x.length ≤ sizeLine then some ((x.length : Int) != 0) else none
  | .tup us => some (!us.isEmpty)
  | .lst us => some (!us.isEmpty)
  | .frz us => some (!us.isEmpty)
  | .dic ks _ => some (!ks.isEmpty)
  | .loc n => match S[n]? with
    | some (.lst us) => some (!us.isEmpty)
    | some (.dic ks _) => some (!ks.isEmpty)
    | _ => none
  | .ty _ => none
  | .exc _ _ _ => none
  | .cl _ => none
theorem vrs_empty {K : KM} {w : Wd} {us : List U} {xs : List V} (r : VRs K w us xs) : us.isEmpty = xs.isEmpty := by
  cases r <;> rfl
theorem zip_empty {ks : List Key} {us : List U} {xs : List V} {K : KM} {w : Wd} (l : ks.length = us.length) (r : VRs K w us xs) : (ks.zip xs).isEmpty = ks.isEmpty := by
  have h := r.length
  cases ks with
  | nil => rfl
  | cons k ks =>
    cases xs with
    | nil => rw [List.length_cons] at l; rw [List.length_nil] at h; omega
    | cons x xs => rfl
theorem truU_ok {w : Wd} {u : U} {v : V} {b : Bool} (s : SR (KMof X) w) (r : VR (KMof X) w u v) (h : truU u w.S = some b) : TruV X.K v w.H b := by
  cases r with
  | non => cases h; rfl
  | bl c => cases h; rfl
  | int i => cases h; rfl
  | str x =>
    unfold truU at h
    dsimp only at h
    split at h
    · rename_i hl; cases h; exact ⟨hl, rfl⟩
    · cases h
  | tup hq rs => cases h; exact .inr (.inl ⟨_, hq.sq, by rw [vrs_empty rs]⟩)
  | lst hq n rs => cases h; exact .inl ⟨_, SqL.of hq, by rw [vrs_empty rs]⟩
  | frz hq rs => cases h; exact .inl ⟨_, hq.sq, by rw [vrs_empty rs]⟩
  | dic hq n l rs => cases h; exact .inr (.inr ⟨_, hq, by rw [zip_empty l rs]⟩)
  | @loc n a hm =>
    unfold truU at h
    dsimp only at h
    split at h
    · rename_i us hS
      cases h
      obtain ⟨xs, q, rs⟩ := s.obj n a _ hm hS
      exact .inl ⟨xs, SqL.of q, by rw [vrs_empty rs]⟩
    · rename_i ks us hS
      cases h
      obtain ⟨xs, q, l, rs⟩ := s.obj n a _ hm hS
      exact .inr (.inr ⟨_, q, by rw [zip_empty l rs]⟩)
    · cases h
  | ty n => cases h
  | exc _ _ _ _ => cases h
  | cl _ => cases h
def oB (o : Option Bool) (S : Sto) : R Bool := match o with
  | some b => .ok b S
  | none => .bad
def fTru (fa : FE) : FT := fun d S => (fa d S).bind fun u S1 => oB (truU u S1) S1
theorem tru_post {w : Wd} {ta : TE} {fa : FE} (ha : ∀ (w : Wd) (d : En) (σ : L2.St) (Q : VK), SR (KMof X) w → ER (KMof X) w d σ → Pst (fa d w.S) (OkE X w Q) (XPost X Wx σ w) → ta σ w.H Q)
    {d : En} {σ : L2.St} {Q : Bool → Hp → Prop} (s : SR (KMof X) w) (e : ER (KMof X) w d σ) (h : Pst (fTru fa d w.S) (OkT X w Q) (XPost X Wx σ w)) : ta σ w.H fun x H1 => ∃ k, TruV X.K x H1 k ∧ Q k H1 := by
  refine ha w d σ _ s e ((Pst.of_bind h).mono (fun u S1 h1 w1 v1 eS st s1 r1 => ?_) fun _ _ q => q)
  subst eS
  unfold oB at h1
  split at h1
  · rename_i b hb
    exact ⟨b, truU_ok s1 r1 hb, h1 w1 rfl st s1⟩
  · exact h1.elim
theorem st_val {e : Expr} {f : FE} (h : SimE X Wx e f) (he : ∀ whole, isTrue e X.env whole = (do let v ← whole; standAt e.pos; holding [v] (truthy v)) := by intro _; rfl) : SimT X Wx e (fTru f) := by
  obtain ⟨t, p, h⟩ := h.out
  exact SimT.mk (pt_truth p he) (fun w d σ Q s e h1 => tru_post h s e h1)
def fAnd (fa fb : FT) : FT := fun d S => (fa d S).bind fun b S1 => if b then fb d S1 else .ok false S1
def fOr (fa fb : FT) : FT := fun d S => (fa d S).bind fun b S1 => if b then .ok true S1 else fb d S1
def fNot (fa : FT) : FT := fun d S => (fa d S).bind fun b S1 => .ok (!b) S1
variable {a b : Expr} {pos : Pos} {rest : List Expr}
theorem SimW.t {e : Expr} {f : FT} (h : SimW X Wx e f) : SimT X Wx e f := let ⟨t, p, h⟩ := h.out; SimT.mk p.pt h
theorem sw_and1 {f : FT} (h : SimT X Wx a f) : SimW X Wx (.BoolOp .And [a] pos) f := let ⟨t, p, h⟩ := h.out; SimW.mk (pw_and1 p) h
theorem sw_or1 {f : FT} (h : SimT X Wx a f) : SimW X Wx (.BoolOp .Or [a] pos) f := let ⟨t, p, h⟩ := h.out; SimW.mk (pw_or1 p) h
theorem sw_and {fa fb : FT} (ha : SimT X Wx a fa) (hb : SimW X Wx (.BoolOp .And (b :: rest) pos) fb) : SimW X Wx (.BoolOp .And (a :: b :: rest) pos) (fAnd fa fb) := by
  obtain ⟨ta, pa, ha⟩ := ha.out
  obtain ⟨tb, pb, hb⟩ := hb.out
  refine SimW.mk (pw_and pa pb) (fun w d σ Q s e h => ?_)
  refine ha w d σ _ s e ((Pst.of_bind h).mono (fun c S1 h1 w1 eS st s1 => ?_) fun _ _ q => q)
  subst eS
  cases c with
  | true => exact hb w1 d σ Q s1 (e.ext st.x s) (h1.mono (fun _ _ q => q.up st) fun _ _ q => q.up st)
  | false => exact h1 w1 rfl st s1
theorem sw_or {fa fb : FT} (ha : SimT X Wx a fa) (hb : SimW X Wx (.BoolOp .Or (b :: rest) pos) fb) : SimW X Wx (.BoolOp .Or (a :: b :: rest) pos) (fOr fa fb) := by
  obtain ⟨ta, pa, ha⟩ := ha.out
  obtain ⟨tb, pb, hb⟩ := hb.out
  refine SimW.mk (pw_or pa pb) (fun w d σ Q s e h => ?_)
  refine ha w d σ _ s e ((Pst.of_bind h).mono (fun c S1 h1 w1 eS st s1 => ?_) fun _ _ q => q)
  subst eS
  cases c with
  | false => exact hb w1 d σ Q s1 (e.ext st.x s) (h1.mono (fun _ _ q => q.up st) fun _ _ q => q.up st)
  | true => exact h1 w1 rfl st s1
theorem st_not {f : FT} (h : SimT X Wx a f) : SimT X Wx (.UnaryOp .Not a pos) (fNot f) := by
  obtain ⟨t, p, h⟩ := h.out
  refine SimT.mk (pt_not p) (fun w d σ Q s e h0 => ?_)
  exact h w d σ _ s e ((Pst.of_bind h0).mono (fun c S1 h1 w1 eS st s1 => h1 w1 eS st s1) fun _ _ q => q)
def fAndV (fa fb : FE) : FE := fun d S => (fa d S).bind fun u S1 => match truU u S1 with
  | some true => fb d S1
  | some false => .ok u S1
  | none => .bad
def fOrV (fa fb : FE) : FE := fun d S => (fa d S).bind fun u S1 => match truU u S1 with
  | some true => .ok u S1
  | some false => fb d S1
  | none => .bad
def fNotV (fa : FE) : FE := fun d S => (fa d S).bind fun u S1 => match truU u S1 with
  | some b => .ok (.bl (!b)) S1
  | none => .bad
theorem se_one {op} {f : FE} (h : SimE X Wx a f) : SimE X Wx (.BoolOp op [a] pos) f := let ⟨t, p, h⟩ := h.out; SimE.mk (pe_one p) h
theorem se_and {fa fb : FE} (ha : SimE X Wx a fa) (hb : SimE X Wx (.BoolOp .And (b :: rest) pos) fb) : SimE X Wx (.BoolOp .And (a :: b :: rest) pos) (fAndV fa fb) := by
  obtain ⟨ta, pa, ha⟩ := ha.out
  obtain ⟨tb, pb, hb⟩ := hb.out
  refine SimE.mk (pe_andT pa pb) (fun w d σ Q s e h => ?_)
  refine ha w d σ _ s e ((Pst.of_bind h).mono (fun u S1 h1 w1 v1 eS st s1 r1 => ?_) fun _ _ q => q)
  subst eS
  split at h1
  · rename_i hb'
    refine ⟨true, truU_ok s1 r1 hb', ?_⟩
    exact hb w1 d σ Q s1 (e.ext st.x s) (h1.mono (fun _ _ q => q.up st) fun _ _ q => q.up st)
  · rename_i hb'
    exact ⟨false, truU_ok s1 r1 hb', h1 w1 v1 rfl st s1 r1⟩
  · exact h1.elim
theorem se_or {fa fb : FE} (ha : SimE X Wx a fa) (hb : SimE X Wx (.BoolOp .Or (b :: rest) pos) fb) : SimE X Wx (.BoolOp .Or (a :: b :: rest) pos) (fOrV fa fb) := by
  obtain ⟨ta, pa, ha⟩ := ha.out
  obtain ⟨tb, pb, hb⟩ := hb.out
  refine SimE.mk (pe_orT pa pb) (fun w d σ Q s e h => ?_)
  refine ha w d σ _ s e ((Pst.of_bind h).mono (fun u S1 h1 w1 v1 eS st s1 r1 => ?_) fun _ _ q => q)
  subst eS
  split at h1
  · rename_i hb'
    exact ⟨true, truU_ok s1 r1 hb', h1 w1 v1 rfl st s1 r1⟩
  · rename_i hb'
    refine ⟨false, truU_ok s1 r1 hb', ?_⟩
    exact hb w1 d σ Q s1 (e.ext st.x s) (h1.mono (fun _ _ q => q.up st) fun _ _ q => q.up st)
  · exact h1.elim
def fIf {α : Type} (c : FT) (fa fb : En → Sto → R α) : En → Sto → R α := fun d S => (c d S).bind fun b S1 => if b then fa d S1 else fb d S1
theorem se_if {c : Expr} {fc : FT} {fa fb : FE} (hc : SimT X Wx c fc) (ha : SimE X Wx a fa) (hb : SimE X Wx b fb) : SimE X Wx (.IfExp c a b pos) (fIf fc fa fb) := by
  obtain ⟨tc, pc, hc⟩ := hc.out
  obtain ⟨ta, pa, ha⟩ := ha.out
  obtain ⟨tb, pb, hb⟩ := hb.out
  refine SimE.mk (pe_ifExp pc pa pb) (fun w d σ Q s e h => ?_)
  refine hc w d σ _ s e ((Pst.of_bind h).mono (fun k S1 h1 w1 eS st s1 => ?_) fun _ _ q => q)
  subst eS
  cases k with
  | true => exact ha w1 d σ Q s1 (e.ext st.x s) (h1.mono (fun _ _ q => q.up st) fun _ _ q => q.up st)
  | false => exact hb w1 d σ Q s1 (e.ext st.x s) (h1.mono (fun _ _ q => q.up st) fun _ _ q => q.up st)
def aNil : FA := fun _ S => .ok [] S
def aCons (f : FE) (g : FA) : FA := fun d S => (f d S).bind fun u S1 => (g d S1).bind fun us S2 => .ok (u :: us) S2
theorem sa_nil : SimA X Wx [] aNil := SimA.mk (pa_nil) (fun w d σ Q s e h => h w [] rfl (Stp.refl w) s .nil)
theorem sa_cons {e : Expr} {es : List Expr} {f : FE} {g : FA} (h1 : SimE X Wx e f) (h2 : SimA X Wx es g) (hs : starEach (e :: es) X.env = (false, eval e X.env) :: starEach es X.env := by rfl) : SimA X Wx (e :: es) (aCons f g) := by
  obtain ⟨t, p, h1⟩ := h1.out
  obtain ⟨u, q, h2⟩ := h2.out
  refine SimA.mk (pa_cons p q hs) (fun w d σ Q s e h => ?_)
  refine h1 w d σ _ s e ((Pst.of_bind h).mono (fun x S1 k1 w1 v1 eS st s1 r1 => ?_) fun _ _ q => q)
  subst eS
  refine h2 w1 d σ _ s1 (e.ext st.x s) ((Pst.of_bind k1).mono (fun us S2 k2 w2 vs eS2 st2 s2 r2 => ?_) fun _ _ q => q.up st)
  subst eS2
  exact k2 w2 (v1 :: vs) rfl (st.trans st2) s2 (.cons (r1.ext st2.x s1) r2)
def fTup (g : FA) : FE := fun d S => (g d S).bind fun us S1 => if us.length ≤ sizeLine then .ok (.tup us) S1 else .bad
theorem se_tup {es : List Expr} {g : FA} {k} (h : SimA X Wx es g) : SimE X Wx (.Tuple es k pos) (fTup g) := by
  obtain ⟨t, p, h⟩ := h.out
  refine SimE.mk (pe_tup p) (fun w d σ Q s e h0 => ?_)
  refine h w d σ _ s e ((Pst.of_bind h0).mono (fun us S1 h1 w1 vs eS st s1 rs => ?_) fun _ _ q => q)
  subst eS
  split at h1
  · rename_i hl
    refine ⟨by rw [← rs.length]; exact hl, fun p hp => ?_⟩
    have st1 := Stp.new s1 (o := .tup vs) hp
    exact h1 (w1.new p (.tup vs)) (.ref p) rfl (st.trans st1) (s1.new hp) (.tup (TqT.of upd_same) (rs.ext st1.x s1))
  · exact h1.elim
def aLst (g : FA) : FA := fun d S => (g d S).bind fun us S1 => if us.length ≤ sizeLine then .ok us S1 else .bad
theorem sl_lst {es : List Expr} {g : FA} (h : SimA X Wx es g) : SimL X Wx (.List es pos) (aLst g) := by
  obtain ⟨t, p, h⟩ := h.out
  refine SimL.mk (pe_lst p) (fun w d σ Q s e h0 => ?_)
  refine h w d σ _ s e ((Pst.of_bind h0).mono (fun us S1 h1 w1 vs eS st s1 rs => ?_) fun _ _ q => q)
  subst eS
  split at h1
  · rename_i hl
    exact ⟨by rw [← rs.length]; exact hl, fun p hp => h1 w1 p vs rfl st s1 rs hp⟩
  · exact h1.elim
def fVal (g : FA) : FE := fun d S => (g d S).bind fun us S1 => .ok (.lst us) S1
def fLoc (g : FA) : FE := fun d S => (g d S).bind fun us S1 => .ok (.loc S1.length) (S1 ++ [.lst us])
theorem SimL.val {e : Expr} {g : FA} (h : SimL X Wx e g) : SimE X Wx e (fVal g) := by
  obtain ⟨t, p, h⟩ := h.out
  refine SimE.mk (p) (fun w d σ Q s e h0 => ?_)
  refine h w d σ _ s e ((Pst.of_bind h0).mono (fun us S1 h1 w1 p xs eS st s1 rs hp => ?_) fun _ _ q => q)
  subst eS
  have st1 := Stp.new s1 (o := .lst xs) hp
  exact h1 (w1.new p (.lst xs)) (.ref p) rfl (st.trans st1) (s1.new hp) (.lst upd_same (fun q => s1.tracked q hp) (rs.ext st1.x s1))
theorem SimL.loc {e : Expr} {g : FA} (h : SimL X Wx e g) : SimE X Wx e (fLoc g) := by
  obtain ⟨t, p, h⟩ := h.out
  refine SimE.mk (p) (fun w d σ Q s e h0 => ?_)
  refine h w d σ _ s e ((Pst.of_bind h0).mono (fun us S1 h1 w1 p xs eS st s1 rs hp => ?_) fun _ _ q => q)
  subst eS
  have st1 := Stp.push s1 (o := .lst xs) (b := .lst us) hp
  refine h1 (w1.push p (.lst xs) (.lst us)) (.ref p) rfl (st.trans st1) (s1.push hp ⟨xs, upd_same, rs.ext st1.x s1⟩) (.loc ?_)
  show (w1.m ++ [p])[w1.S.length]? = some p
  rw [← s1.len]
  simp
def fIce (f : FE) : FE := fun d S => (f d S).bind fun u S1 => match u with
  | .loc n => match S1[n]? with
    | some (.lst us) => .ok (.lst us) (S1.set n .dead)
    | some (.dic ks us) => .ok (.dic ks us) (S1.set n .dead)
    | _ => .bad
  | _ => .bad
theorem se_ice {e : Expr} {f : FE} (h : SimE X Wx e f) : SimE X Wx e (fIce f) := by
  obtain ⟨t, p, h⟩ := h.out
  refine SimE.mk (p) (fun w d σ Q s e h0 => ?_)
  refine h w d σ _ s e ((Pst.of_bind h0).mono (fun u S1 h1 w1 v1 eS st s1 r1 => ?_) fun _ _ q => q)
  subst eS
  cases r1 with
  | @loc n a hm =>
    dsimp only at h1
    split at h1
    · rename_i us hS
      obtain ⟨xs, q, rs⟩ := s1.obj n a _ hm hS
      exact h1 (w1.ice n) (.ref a) rfl (st.trans (Stp.ice w1 n)) (s1.ice n) (.lst q (live_ice s1 hm hS (by intro z; cases z)) (rs.ext (Ext.ice w1 n) s1))
    · rename_i ks us hS
      obtain ⟨xs, q, l, rs⟩ := s1.obj n a _ hm hS
      exact h1 (w1.ice n) (.ref a) rfl (st.trans (Stp.ice w1 n)) (s1.ice n) (.dic q (live_ice s1 hm hS (by intro z; cases z)) l (rs.ext (Ext.ice w1 n) s1))
    · exact h1.elim
  | _ => exact h1.elim
end
end DL
namespace DL
open PySem PySem.Spec L2
def listM (u : U) (S : Sto) : Option (List U) := match u with
  | .lst us => some us
  | .loc n => match S[n]? with
    | some (.lst us) => some us
    | _ => none
  | _ => none
def listOf (u : U) (S : Sto) : Option (List U) := match u with
  | .frz us => some us
  | u => listM u S
def dictOf (u : U) (S : Sto) : Option (List Key × List U) := match u with
  | .dic ks us => some (ks, us)
  | .loc n => match S[n]? with
    | some (.dic ks us) => some (ks, us)
    | _ => none
  | _ => none
def keyU : U → Option Key
  | .int i => some (.inl i)
  | .str x => some (.inr x)
  | _ => none
def valU : List Key → List U → Key → Option U
  | k :: ks, u :: us, j => if k = j then some u else valU ks us j
  | _, _, _ => none
section
variable {K : KM} {w : Wd}
theorem listM_ok {u : U} {v : V} {us : List U} (s : SR K w) (r : VR K w u v) (h : listM u w.S = some us) : ∃ a xs, v = .ref a ∧ w.H a = some (.lst xs) ∧ VRs K w us xs := by
  cases r with
  | lst hq n rs => cases h; exact ⟨_, _, rfl, hq, rs⟩
  | @loc n a hm =>
    unfold listM at h
    dsimp only at h
    split at h
    · rename_i us' hS
      cases h
      obtain ⟨xs, q, rs⟩ := s.obj n a _ hm hS
      exact ⟨a, xs, rfl, q, rs⟩
    · cases h
  | _ => cases h
theorem listOf_ok {u : U} {v : V} {us : List U} (s : SR K w) (r : VR K w u v) (h : listOf u w.S = some us) : ∃ a xs, v = .ref a ∧ SqL K w.H a xs ∧ VRs K w us xs := by
  cases r with
  | frz hq rs => cases h; exact ⟨_, _, rfl, hq.sq, rs⟩
  | lst hq n rs => cases h; exact ⟨_, _, rfl, SqL.of hq, rs⟩
  | loc hm =>
    obtain ⟨a, xs, e, q, rs⟩ := listM_ok s (.loc hm) h
    exact ⟨a, xs, e, SqL.of q, rs⟩
  | _ => cases h
theorem dictOf_ok {u : U} {v : V} {ks : List Key} {us : List U} (s : SR K w) (r : VR K w u v) (h : dictOf u w.S = some (ks, us)) : ∃ a xs, v = .ref a ∧ w.H a = some (.dK (ks.zip xs)) ∧ ks.length = us.length ∧ VRs K w us xs := by
  cases r with
  | dic hq n l rs => cases h; exact ⟨_, _, rfl, hq, l, rs⟩
  | @loc n a hm =>
    unfold dictOf at h
    dsimp only at h
    split at h
    · rename_i ks' us' hS
      cases h
      obtain ⟨xs, q, l, rs⟩ := s.obj n a _ hm hS
      exact ⟨a, xs, rfl, q, l, rs⟩
    · cases h
  | _ => cases h
theorem keyU_ok {u : U} {v : V} {k : Key} (r : VR K w u v) (h : keyU u = some k) : v = kV k := by
  cases r with
  | int i => cases h; rfl
  | str x => cases h; rfl
  | _ => cases h
theorem valU_ok : ∀ {ks : List Key} {us : List U} {xs : List V} (k : Key), VRs K w us xs → (valU ks us k = none → valV (ks.zip xs) k = none) ∧ ∀ u, valU ks us k = some u → ∃ v, valV (ks.zip xs) k = some v ∧ VR K w u v
  | [], us, xs, k, r => ⟨fun _ => by rw [List.zip_nil_left]; exact valV_nil, fun u h => by unfold valU at h; cases h⟩
  | k' :: ks, _, _, k, .nil => ⟨fun _ => by rw [List.zip_nil_right]; exact valV_nil, fun u h => by unfold valU at h; cases h⟩
  | k' :: ks, u :: us, x :: xs, k, .cons r rs => by
    rw [List.zip_cons_cons]
    by_cases e : k' = k
    · refine ⟨fun h => ?_, fun y h => ?_⟩
      · unfold valU at h; rw [if_pos e] at h; cases h
      · unfold valU at h; rw [if_pos e] at h; cases h; exact ⟨x, valV_pos e, r⟩
    · rw [valV_neg e]
      unfold valU
      rw [if_neg e]
      exact valU_ok k rs
theorem valU_rel {ks : List Key} {us : List U} {xs : List V} (k : Key) (r : VRs K w us xs) : (valU ks us k).isSome = (valV (ks.zip xs) k).isSome := by
  obtain ⟨h1, h2⟩ := valU_ok (ks := ks) k r
  cases h : valU ks us k with
  | none => rw [h1 h]; rfl
  | some u => obtain ⟨v, e, _⟩ := h2 u h; rw [e]; rfl
end
mutual
def toD : U → Option PyData
  | .non => some .none
  | .bl b => some (.bool b)
  | .int i => some (.int i)
  | .str x => some (.str x)
  | .tup us => (toDs us).map .tuple
  | .lst us => (toDs us).map .list
  | .frz us => (toDs us).map .list
  | .dic _ _ => none
  | .loc _ => none
  | .ty _ => none
  | .exc _ _ _ => none
  | .cl _ => none
def toDs : List U → Option (List PyData)
  | [] => some []
  | u :: us => match toD u, toDs us with
    | some d, some ds => some (d :: ds)
    | _, _ => none
end
section
variable {K : KM} {w : Wd}
mutual
theorem toD_ok : ∀ {u : U} {v : V} {d : PyData}, VR K w u v → toD u = some d → Dp K w.H v d
  | _, _, _, .non, h => by unfold toD at h; cases h; exact .non
  | _, _, _, .bl b, h => by unfold toD at h; cases h; exact .bl b
  | _, _, _, .int i, h => by unfold toD at h; cases h; exact .int i
  | _, _, _, .str x, h => by unfold toD at h; cases h; exact .str x
  | _, _, _, .tup (us := us) hq rs, h => by
    unfold toD at h
    cases e : toDs us with
    | none => rw [e] at h; cases h
    | some ds => rw [e] at h; cases h; exact .tup hq.sq (toDs_ok rs e)
  | _, _, _, .lst (us := us) hq _ rs, h => by
    unfold toD at h
    cases e : toDs us with
    | none => rw [e] at h; cases h
    | some ds => rw [e] at h; cases h; exact .lst (SqL.of hq) (toDs_ok rs e)
  | _, _, _, .frz (us := us) hq rs, h => by
    unfold toD at h
    cases e : toDs us with
    | none => rw [e] at h; cases h
    | some ds => rw [e] at h; cases h; exact .lst hq.sq (toDs_ok rs e)
  | _, _, _, .dic _ _ _ _, h => by unfold toD at h; cases h
  | _, _, _, .loc _, h => by unfold toD at h; cases h
  | _, _, _, .ty _, h => by unfold toD at h; cases h
  | _, _, _, .exc _ _ _ _, h => by unfold toD at h; cases h
  | _, _, _, .cl _, h => by unfold toD at h; cases h
theorem toDs_ok : ∀ {us : List U} {vs : List V} {ds : List PyData}, VRs K w us vs → toDs us = some ds → DpAll K w.H vs ds
  | _, _, _, .nil, h => by unfold toDs at h; cases h; exact .nil
  | _, _, _, .cons (u := u) (us := us) r rs, h => by
    unfold toDs at h
    split at h
    · rename_i d ds e1 e2
      cases h
      exact .cons (toD_ok r e1) (toDs_ok rs e2)
    · cases h
end
def toDS (u : U) (S : Sto) : Option PyData := match u with
  | .loc n => match S[n]? with
    | some (.lst us) => (toDs us).map .list
    | _ => none
  | u => toD u
theorem toDS_ok {u : U} {v : V} {d : PyData} (s : SR K w) (r : VR K w u v) (h : toDS u w.S = some d) : Dp K w.H v d := by
  by_cases hl : ∃ n, u = .loc n
  · obtain ⟨n, rfl⟩ := hl
    cases r with
    | @loc _ a hm =>
      unfold toDS at h
      dsimp only at h
      split at h
      · rename_i us hS
        obtain ⟨xs, q, rs⟩ := s.obj n a _ hm hS
        cases e : toDs us with
        | none => rw [e] at h; cases h
        | some ds => rw [e] at h; cases h; exact .lst (SqL.of q) (toDs_ok rs e)
      · cases h
  · refine toD_ok r ?_
    unfold toDS at h
    split at h
    · exact absurd ⟨_, rfl⟩ hl
    · exact h
end
abbrev bI (b : Bool) : Int := if b then 1 else 0
def guard {α : Type} (c : Bool) (r : R α) : R α := if c then r else .bad
def addU (x y : U) (S : Sto) : R U := match x, y with
  | .int i, .int j => .ok (.int (i + j)) S
  | .int i, .bl b => .ok (.int (i + bI b)) S
  | .str a, .str b => guard (decide (a.length + b.length ≤ sizeLine)) (.ok (.str (a ++ b)) S)
  | .tup a, .tup b => guard (decide (a.length + b.length ≤ sizeLine)) (.ok (.tup (a ++ b)) S)
  | x, y => match listM x S, listM y S with
    | some a, some b => guard (decide (a.length + b.length ≤ sizeLine)) (.ok (.lst (a ++ b)) S)
    | _, _ => .bad
def subU (x y : U) (S : Sto) : R U := match x, y with
  | .int i, .int j => .ok (.int (i - j)) S
  | _, _ => .bad
def mulOk (i j : Int) : Bool := decide ((Builtin.Int.intBits i : Int) + (Builtin.Int.intBits j : Int) ≤ 134217728)
def mulU (x y : U) (S : Sto) : R U := match x, y with
  | .int i, .int j => guard (mulOk i j) (.ok (.int (i * j)) S)
  | x, .int k => match listM x S with
    | some a => guard (decide (-(2 ^ 63) ≤ k) && decide (k < 2 ^ 63) && decide (a.length * k.toNat ≤ sizeLine)) (.ok (.lst (List.replicate k.toNat a).flatten) S)
    | none => .bad
  | _, _ => .bad
def fdivU (x y : U) (S : Sto) : R U := match x, y with
  | .int i, .int j => guard (decide (0 < j) && decide (j.natAbs.log2 < 9000)) (.ok (.int (i / j)) S)
  | _, _ => .bad
def modU (x y : U) (S : Sto) : R U := match x, y with
  | .int i, .int j => guard (decide (0 < j)) (.ok (.int (i % j)) S)
  | _, _ => .bad
def powU (x y : U) (S : Sto) : R U := match x, y with
  | .int i, .int j => guard (decide (0 ≤ j) && decide (j ≤ 1000000) && decide (i.natAbs < 2 ^ 64)) (.ok (.int (i ^ j.toNat)) S)
  | _, _ => .bad
section
variable {X : Cx}
theorem guard_post {α : Type} {c : Bool} {r : R α} {P : α → Sto → Prop} {E : Exc → Sto → Prop} (h : Pst (guard c r) P E) : c = true ∧ Pst r P E := by
  unfold guard at h
  cases c with
  | true => exact ⟨rfl, h⟩
  | false => exact h.elim
theorem noX_guard {c : Bool} {r : R U} (h : noX r) : noX (guard c r) := by
  unfold guard; cases c with
  | true => exact h
  | false => trivial
theorem noX_add (x y : U) (S : Sto) : noX (addU x y S) := by
  unfold addU
  split <;> first | trivial | exact noX_guard trivial | (split <;> first | trivial | exact noX_guard trivial)
theorem noX_sub (x y : U) (S : Sto) : noX (subU x y S) := by
  unfold subU; split <;> trivial
theorem noX_mul (x y : U) (S : Sto) : noX (mulU x y S) := by
  unfold mulU
  split <;> first | trivial | exact noX_guard trivial | (split <;> first | trivial | exact noX_guard trivial)
theorem noX_fdiv (x y : U) (S : Sto) : noX (fdivU x y S) := by
  unfold fdivU; split <;> first | trivial | exact noX_guard trivial
theorem noX_mod (x y : U) (S : Sto) : noX (modU x y S) := by
  unfold modU; split <;> first | trivial | exact noX_guard trivial
theorem noX_pow (x y : U) (S : Sto) : noX (powU x y S) := by
  unfold powU; split <;> first | trivial | exact noX_guard trivial
theorem os_add : OpSim X (binaryOp .Add) addU := by
  refine ⟨_, op_add.or (op_add_ib.or (op_add_str.or (op_cat.or op_catA))), fun w x y v v' Q s rx ry h => ?_⟩
  have lists : ∀ {x y : U} {v v' : V}, VR (KMof X) w x v → VR (KMof X) w y v' → Pst (match listM x w.S, listM y w.S with
    | some a, some b => guard (decide (a.length + b.length ≤ sizeLine)) (.ok (.lst (a ++ b)) w.S)
    | _, _ => .bad) (OkE X w Q) (fun _ _ => False) → rCat v v' w.H Q := fun {x y v v'} rx ry h => by
    split at h
    · rename_i a b h1 h2
      obtain ⟨hl, h⟩ := guard_post h
      obtain ⟨p, xs, rfl, q, rs⟩ := listM_ok s rx h1
      obtain ⟨p', xs', rfl, q', rs'⟩ := listM_ok s ry h2
      refine ⟨p, p', xs, xs', rfl, rfl, q, q', by rw [← rs.length, ← rs'.length]; exact of_decide_eq_true hl, fun z hz => ?_⟩
      have st := Stp.new s (o := .lst (xs ++ xs')) hz
      exact h (w.new z _) (.ref z) rfl st (s.new hz) (.lst upd_same (fun q => s.tracked q hz) ((rs.append rs').ext st.x s))
    · exact h.elim
  unfold addU at h
  split at h
  · cases rx; cases ry; exact .inl ⟨_, _, rfl, rfl, OkE.here h s (.int _)⟩
  · cases rx; cases ry; exact .inr (.inl ⟨_, _, rfl, rfl, OkE.here h s (.int _)⟩)
  · obtain ⟨hl, h⟩ := guard_post h
    cases rx; cases ry; exact .inr (.inr (.inl ⟨_, _, rfl, rfl, of_decide_eq_true hl, OkE.here h s (.str _)⟩))
  · rename_i a b
    obtain ⟨hl, h⟩ := guard_post h
    cases rx with
    | @tup p xs _ hq rs =>
      cases ry with
      | @tup p' xs' _ hq' rs' =>
        refine .inr (.inr (.inr (.inr ⟨p, p', xs, xs', rfl, rfl, hq.sq, hq'.sq, by rw [← rs.length, ← rs'.length]; exact of_decide_eq_true hl, fun e => ?_, fun _ e => ?_, fun _ _ z hz => ?_⟩)))
        · subst e
          cases rs
          exact OkE.here h s (.tup hq' rs')
        · subst e
          cases rs'
          rw [List.append_nil] at h
          exact OkE.here h s (.tup hq rs)
        · have st := Stp.new s (o := .tup (xs ++ xs')) hz
          exact h (w.new z _) (.ref z) rfl st (s.new hz) (.tup (TqT.of upd_same) ((rs.append rs').ext st.x s))
  · exact .inr (.inr (.inr (.inl (lists rx ry h))))
theorem os_sub : OpSim X (binaryOp .Sub) subU := by
  refine ⟨_, op_sub, fun w x y v v' Q s rx ry h => ?_⟩
  unfold subU at h
  split at h
  · cases rx; cases ry; exact ⟨_, _, rfl, rfl, OkE.here h s (.int _)⟩
  · exact h.elim
theorem os_mul : OpSim X (binaryOp .Mult) mulU := by
  refine ⟨_, op_mulX.or op_rep, fun w x y v v' Q s rx ry h => ?_⟩
  unfold mulU at h
  split at h
  · obtain ⟨hl, h⟩ := guard_post h
    cases rx; cases ry; exact .inl ⟨_, _, rfl, rfl, show (_ : Int) ≤ _ from of_decide_eq_true hl, OkE.here h s (.int _)⟩
  · rename_i k _
    split at h
    · rename_i a h1
      obtain ⟨hl, h⟩ := guard_post h
      simp only [Bool.and_eq_true, decide_eq_true_eq] at hl
      obtain ⟨⟨l1, l2⟩, l3⟩ := hl
      obtain ⟨p, xs, rfl, q, rs⟩ := listM_ok s rx h1
      cases ry
      refine .inr ⟨p, k, xs, rfl, rfl, q, l1, l2, by rw [← rs.length]; exact l3, fun z hz => ?_⟩
      have st := Stp.new s (o := .lst (List.replicate k.toNat xs).flatten) hz
      have rep : ∀ n : Nat, VRs (KMof X) w (List.replicate n a).flatten (List.replicate n xs).flatten := fun n => by
        induction n with
        | zero => exact .nil
        | succ n ih => rw [List.replicate_succ, List.replicate_succ, List.flatten_cons, List.flatten_cons]; exact rs.append ih
      exact h (w.new z _) (.ref z) rfl st (s.new hz) (.lst upd_same (fun q => s.tracked q hz) ((rep k.toNat).ext st.x s))
    · exact h.elim
  · exact h.elim
theorem os_fdiv : OpSim X (binaryOp .FloorDiv) fdivU := by
  refine ⟨_, op_fdivW, fun w x y v v' Q s rx ry h => ?_⟩
  unfold fdivU at h
  split at h
  · obtain ⟨hl, h⟩ := guard_post h
    simp only [Bool.and_eq_true, decide_eq_true_eq] at hl
    cases rx; cases ry; exact ⟨_, _, rfl, rfl, hl, OkE.here h s (.int _)⟩
  · exact h.elim
theorem os_mod : OpSim X (binaryOp .Mod) modU := by
  refine ⟨_, op_mod, fun w x y v v' Q s rx ry h => ?_⟩
  unfold modU at h
  split at h
  · obtain ⟨hl, h⟩ := guard_post h
    cases rx; cases ry; exact ⟨_, _, rfl, rfl, of_decide_eq_true hl, OkE.here h s (.int _)⟩
  · exact h.elim
theorem os_pow : OpSim X (binaryOp .Pow) powU := by
  refine ⟨_, op_pow, fun w x y v v' Q s rx ry h => ?_⟩
  unfold powU at h
  split at h
  · obtain ⟨hl, h⟩ := guard_post h
    simp only [Bool.and_eq_true, decide_eq_true_eq] at hl
    cases rx; cases ry; exact ⟨_, _, rfl, rfl, ⟨hl.1.1, hl.1.2, hl.2⟩, OkE.here h s (.int _)⟩
  · exact h.elim
def negU (x : U) (S : Sto) : R U := match x with
  | .int i => .ok (.int (-i)) S
  | _ => .bad
theorem us_neg : UnSim X (unaryOp .USub) negU := by
  refine ⟨_, un_neg, fun x S => by unfold negU; split <;> trivial, fun w x v Q s rx h => ?_⟩
  unfold negU at h
  split at h
  · cases rx; exact ⟨_, rfl, OkE.here h s (.int _)⟩
  · exact h.elim
def flatU : U → Bool
  | .non => true
  | .bl _ => true
  | .int _ => true
  | .str _ => true
  | _ => false
def eqF : U → U → Bool
  | .non, .non => true
  | .bl a, .bl b => a == b
  | .bl a, .int j => bI a == j
  | .int i, .bl b => i == bI b
  | .int i, .int j => i == j
  | .str x, .str y => x == y
  | _, _ => false
def scalU : U → U → Bool
  | .bl _, .int _ => false
  | .int _, .bl _ => false
  | x, y => flatU x && flatU y
theorem scal_ok {w : Wd} {x y : U} {v v' : V} (r : VR (KMof X) w x v) (r' : VR (KMof X) w y v') (h : scalU x y = true) : scal v v' = true ∧ decide (v = v') = eqF x y := by
  cases r <;> cases r' <;> first
    | (exfalso; exact Bool.noConfusion h)
    | exact ⟨rfl, rfl⟩
    | exact ⟨rfl, decide_eq_false fun z => nomatch z⟩
    | exact ⟨rfl, decide_eq_true rfl⟩
    | exact ⟨rfl, dec_int⟩
    | exact ⟨rfl, dec_bl⟩
    | exact ⟨rfl, dec_str⟩
def eqOk (x y : U) (S : Sto) (g : Bool → Bool) : R U := if scalU x y then .ok (.bl (g (eqF x y))) S else match toDS x S, toDS y S with
  | some a, some b => guard (SeqAt.shaped a && SeqAt.shaped b) (.ok (.bl (g (PyData.eqv a b))) S)
  | _, _ => .bad
def eqU (x y : U) (S : Sto) : R U := eqOk x y S id
def neU (x y : U) (S : Sto) : R U := eqOk x y S not
theorem noX_eqOk (x y : U) (S : Sto) (g : Bool → Bool) : noX (eqOk x y S g) := by
  unfold eqOk
  split
  · trivial
  · split <;> first | trivial | exact noX_guard trivial
theorem noX_eq (x y : U) (S : Sto) : noX (eqU x y S) := noX_eqOk x y S id
theorem noX_ne (x y : U) (S : Sto) : noX (neU x y S) := noX_eqOk x y S not
theorem os_eq (hu : X.A.units + 64 < cLine) : OpSim X (compareOp .Eq) eqU := by
  refine ⟨_, op_eq.or (op_eqD hu), fun w x y v v' Q s rx ry h => ?_⟩
  unfold eqU eqOk at h
  split at h
  · rename_i hs
    obtain ⟨h1, h2⟩ := scal_ok rx ry hs
    exact .inl ⟨h1, by rw [h2]; exact OkE.here h s (.bl _)⟩
  · split at h
    · rename_i a b h1 h2
      obtain ⟨hl, h⟩ := guard_post h
      simp only [Bool.and_eq_true] at hl
      exact .inr ⟨a, b, toDS_ok s rx h1, toDS_ok s ry h2, hl.1, hl.2, OkE.here h s (.bl _)⟩
    · exact h.elim
theorem os_ne (hu : X.A.units + 64 < cLine) : OpSim X (compareOp .NotEq) neU := by
  refine ⟨_, op_ne.or (op_neD hu), fun w x y v v' Q s rx ry h => ?_⟩
  unfold neU eqOk at h
  split at h
  · rename_i hs
    obtain ⟨h1, h2⟩ := scal_ok rx ry hs
    exact .inl ⟨h1, by rw [h2]; exact OkE.here h s (.bl _)⟩
  · split at h
    · rename_i a b h1 h2
      obtain ⟨hl, h⟩ := guard_post h
      simp only [Bool.and_eq_true] at hl
      exact .inr ⟨a, b, toDS_ok s rx h1, toDS_ok s ry h2, hl.1, hl.2, OkE.here h s (.bl _)⟩
    · exact h.elim
def ltU (x y : U) (S : Sto) : R U := match x, y with
  | .int i, .int j => .ok (.bl (decide (i < j))) S
  | .str a, .str b => .ok (.bl (decide (a.cps.toList < b.cps.toList))) S
  | _, _ => .bad
def leU (x y : U) (S : Sto) : R U := match x, y with
  | .int i, .int j => .ok (.bl (decide (i ≤ j))) S
  | _, _ => .bad
def gtU (x y : U) (S : Sto) : R U := match x, y with
  | .int i, .int j => .ok (.bl (decide (j < i))) S
  | _, _ => .bad
def geU (x y : U) (S : Sto) : R U := match x, y with
  | .int i, .int j => .ok (.bl (decide (j ≤ i))) S
  | _, _ => .bad
theorem noX_lt (x y : U) (S : Sto) : noX (ltU x y S) := by unfold ltU; split <;> trivial
theorem noX_le (x y : U) (S : Sto) : noX (leU x y S) := by unfold leU; split <;> trivial
theorem noX_gt (x y : U) (S : Sto) : noX (gtU x y S) := by unfold gtU; split <;> trivial
theorem noX_ge (x y : U) (S : Sto) : noX (geU x y S) := by unfold geU; split <;> trivial
theorem os_lt : OpSim X (compareOp .Lt) ltU := by
  refine ⟨_, op_lt.or op_lt_str, fun w x y v v' Q s rx ry h => ?_⟩
  unfold ltU at h
  split at h
  · cases rx; cases ry; exact .inl ⟨_, _, rfl, rfl, OkE.here h s (.bl _)⟩
  · cases rx; cases ry; exact .inr ⟨_, _, rfl, rfl, OkE.here h s (.bl _)⟩
  · exact h.elim
theorem os_le : OpSim X (compareOp .LtE) leU := by
  refine ⟨_, op_le, fun w x y v v' Q s rx ry h => ?_⟩
  unfold leU at h
  split at h
  · cases rx; cases ry; exact ⟨_, _, rfl, rfl, OkE.here h s (.bl _)⟩
  · exact h.elim
theorem os_gt : OpSim X (compareOp .Gt) gtU := by
  refine ⟨_, op_gt, fun w x y v v' Q s rx ry h => ?_⟩
  unfold gtU at h
  split at h
  · cases rx; cases ry; exact ⟨_, _, rfl, rfl, OkE.here h s (.bl _)⟩
  · exact h.elim
theorem os_ge : OpSim X (compareOp .GtE) geU := by
  refine ⟨_, op_ge, fun w x y v v' Q s rx ry h => ?_⟩
  unfold geU at h
  split at h
  · cases rx; cases ry; exact ⟨_, _, rfl, rfl, OkE.here h s (.bl _)⟩
  · exact h.elim
def isNon : U → Bool
  | .non => true
  | _ => false
def isU (x y : U) (S : Sto) : R U := match y with
  | .non => .ok (.bl (isNon x)) S
  | _ => .bad
def isnU (x y : U) (S : Sto) : R U := match y with
  | .non => .ok (.bl (!isNon x)) S
  | _ => .bad
theorem noX_is (x y : U) (S : Sto) : noX (isU x y S) := by unfold isU; split <;> trivial
theorem noX_isn (x y : U) (S : Sto) : noX (isnU x y S) := by unfold isnU; split <;> trivial
theorem isNon_ok {w : Wd} {x : U} {v : V} (r : VR (KMof X) w x v) : decide (v = .non) = isNon x := by
  cases r <;> first | rfl | exact decide_eq_false (fun z => nomatch z)
theorem os_is : OpSim X (compareOp .Is) isU := by
  refine ⟨_, op_isN, fun w x y v v' Q s rx ry h => ?_⟩
  unfold isU at h
  split at h
  · cases ry; exact ⟨rfl, by rw [isNon_ok rx]; exact OkE.here h s (.bl _)⟩
  · exact h.elim
theorem os_isn : OpSim X (compareOp .IsNot) isnU := by
  refine ⟨_, op_notN, fun w x y v v' Q s rx ry h => ?_⟩
  unfold isnU at h
  split at h
  · cases ry; exact ⟨rfl, by rw [isNon_ok rx]; exact OkE.here h s (.bl _)⟩
  · exact h.elim
def inStr (a b : Str) : Bool := match a.cps.toList with
  | [c] => decide (c ∈ b.cps.toList)
  | _ => !(Builtin.Str.occurrences b a 0 b.length 1).isEmpty
def flatL (x y : U) (S : Sto) : Option Bool := match listOf y S with
  | some us => if flatU x && us.all flatU then some (us.any fun z => eqF z x) else none
  | none => none
def inB (x y : U) (S : Sto) : Option Bool := match y with
  | .str b => match x with
    | .str a => some (inStr a b)
    | _ => none
  | .tup us => if flatU x && us.all flatU then some (us.any fun z => eqF z x) else none
  | y => match dictOf y S, keyU x with
    | some (ks, us), some k => some (valU ks us k).isSome
    | _, _ => match flatL x y S with
      | some b => some b
      | none => match toDS x S, toDS y S with
        | some d, some (.list ds) => if SeqAt.shaped d && SeqAt.shaped (.list ds) then some (ds.any fun z => PyData.eqv z d) else none
        | _, _ => none
def inU (x y : U) (S : Sto) : R U := match inB x y S with
  | some b => .ok (.bl b) S
  | none => .bad
def ninU (x y : U) (S : Sto) : R U := match inB x y S with
  | some b => .ok (.bl (!b)) S
  | none => .bad
theorem noX_in (x y : U) (S : Sto) : noX (inU x y S) := by unfold inU; split <;> trivial
theorem noX_nin (x y : U) (S : Sto) : noX (ninU x y S) := by unfold ninU; split <;> trivial
end
end DL
namespace DL
open PySem PySem.Spec L2
section
variable {X : Cx} {Wx : WX}
theorem op_in_dict (hu : X.A.units + 1 < cLine) : OpR X (compareOp .In) (fun y x H Q => ∃ a o, x = .ref a ∧ DGet H a y o ∧ Q (.bl o.isSome) H) := by
  intro pins s σ H x y v u Q I rx ry h
  obtain ⟨a, o, rfl, g, q⟩ := h
  cases ry
  exact d_in hu I g rx fun s' I' => ⟨.bl o.isSome, H, I', rfl, q⟩
theorem op_nin_dict (hu : X.A.units + 1 < cLine) : OpR X (compareOp .NotIn) (fun y x H Q => ∃ a o, x = .ref a ∧ DGet H a y o ∧ Q (.bl (!o.isSome)) H) := by
  intro pins s σ H x y v u Q I rx ry h
  obtain ⟨a, o, rfl, g, q⟩ := h
  cases ry
  exact d_notIn hu I g rx fun s' I' => ⟨.bl (!o.isSome), H, I', rfl, q⟩
theorem flat_ok {K : KM} {w : Wd} {u : U} {v : V} (r : VR K w u v) (h : flatU u = true) : flatV v = true := by
  cases r <;> first | rfl | cases h
theorem flats_ok {K : KM} {w : Wd} : ∀ {us : List U} {vs : List V}, VRs K w us vs → us.all flatU = true → vs.all flatV = true
  | _, _, .nil, _ => rfl
  | _, _, .cons r rs, h => by
    rw [List.all_cons, Bool.and_eq_true] at h
    rw [List.all_cons, flat_ok r h.1, flats_ok rs h.2]; rfl
theorem eqF_ok {K : KM} {w : Wd} {x y : U} {v v' : V} (r : VR K w x v) (r' : VR K w y v') (h : flatU x = true) (h' : flatU y = true) : eqV v v' = eqF x y := by
  cases r <;> first | (exfalso; exact Bool.noConfusion h) | (cases r' <;> first | (exfalso; exact Bool.noConfusion h') | rfl)
theorem anyF_ok {K : KM} {w : Wd} {y : U} {v' : V} (r' : VR K w y v') (h' : flatU y = true) : ∀ {us : List U} {vs : List V}, VRs K w us vs → us.all flatU = true → inV v' vs = us.any fun z => eqF z y
  | _, _, .nil, _ => rfl
  | _, _, .cons r rs, h => by
    rw [List.all_cons, Bool.and_eq_true] at h
    unfold inV
    rw [List.any_cons, List.any_cons, eqF_ok r r' h.1 h', ← anyF_ok r' h' rs h.2]
    rfl
theorem inStr_one {a b : Str} {c : Nat} (h : a.cps.toList = [c]) : a = ⟨#[c]⟩ ∧ inStr a b = decide (c ∈ b.cps.toList) := by
  refine ⟨?_, ?_⟩
  · cases a with
    | mk l => cases l with
      | mk l => cases h; rfl
  · unfold inStr; rw [h]
theorem inB_cases {w : Wd} {x y : U} {v v' : V} {b : Bool} (s : SR (KMof X) w) (rx : VR (KMof X) w x v) (ry : VR (KMof X) w y v') (h : inB x y w.S = some b) :
    (∃ c z, v = .str ⟨#[c]⟩ ∧ v' = .str z ∧ b = decide (c ∈ z.cps.toList)) ∨ (∃ i j, v = .str i ∧ v' = .str j ∧ b = !(Builtin.Str.occurrences j i 0 j.length 1).isEmpty) ∨
    (∃ p xs, v' = .ref p ∧ (SqL X.K w.H p xs ∨ SqT X.K w.H p xs) ∧ flatV v = true ∧ xs.all flatV = true ∧ b = inV v xs) ∨
    (∃ d ds, Dp X.K w.H v d ∧ Dp X.K w.H v' (.list ds) ∧ SeqAt.shaped d = true ∧ SeqAt.shaped (.list ds) = true ∧ b = ds.any fun z => PyData.eqv z d) ∨
    (∃ a o, v' = .ref a ∧ DGet w.H a v o ∧ b = o.isSome) := by
  unfold inB at h
  split at h
  · rename_i z
    split at h
    · rename_i i
      cases h
      cases rx; cases ry
      unfold inStr
      split
      · rename_i c hc
        exact .inl ⟨c, z, by rw [(inStr_one (b := z) hc).1], rfl, rfl⟩
      · exact .inr (.inl ⟨i, z, rfl, rfl, rfl⟩)
    · cases h
  · rename_i us
    split at h
    · rename_i hf
      cases h
      rw [Bool.and_eq_true] at hf
      cases ry with
      | tup hq rs => exact .inr (.inr (.inl ⟨_, _, rfl, .inr hq.sq, flat_ok rx hf.1, flats_ok rs hf.2, (anyF_ok rx hf.1 rs hf.2).symm⟩))
    · cases h
  · split at h
    · rename_i ks us k h1 h2
      cases h
      obtain ⟨a, xs, rfl, q, l, rs⟩ := dictOf_ok s ry h1
      rw [keyU_ok rx h2]
      exact .inr (.inr (.inr (.inr ⟨a, _, rfl, DGet.k q, valU_rel k rs⟩)))
    · split at h
      · rename_i b0 hb0
        cases h
        unfold flatL at hb0
        split at hb0
        · rename_i us hl
          split at hb0
          · rename_i hf
            cases hb0
            rw [Bool.and_eq_true] at hf
            obtain ⟨a, xs, rfl, hq, rs⟩ := listOf_ok s ry hl
            exact .inr (.inr (.inl ⟨_, _, rfl, .inl hq, flat_ok rx hf.1, flats_ok rs hf.2, (anyF_ok rx hf.1 rs hf.2).symm⟩))
          · cases hb0
        · cases hb0
      · split at h
        · rename_i d ds h1 h2
          split at h
          · rename_i hs
            cases h
            rw [Bool.and_eq_true] at hs
            exact .inr (.inr (.inr (.inl ⟨d, ds, toDS_ok s rx h1, toDS_ok s ry h2, hs.1, hs.2, rfl⟩)))
          · cases h
        · cases h
theorem os_in (hu : X.A.units + 66 < cLine) : OpSim X (compareOp .In) inU := by
  refine ⟨_, op_in_sign.or (op_in_str.or (op_in_seq.or ((op_inD (by omega)).or (op_in_dict (by omega))))), fun w x y v v' Q s rx ry h => ?_⟩
  unfold inU at h
  split at h
  · rename_i b hb
    have q := OkE.here h s (.bl b)
    rcases inB_cases s rx ry hb with ⟨c, z, rfl, rfl, e⟩ | ⟨i, j, rfl, rfl, e⟩ | ⟨p, xs, rfl, h1, h2, h3, e⟩ | ⟨d, ds, h1, h2, h3, h4, e⟩ | ⟨a, o, rfl, g, e⟩
    · exact .inl ⟨c, z, rfl, rfl, e ▸ q⟩
    · exact .inr (.inl ⟨i, j, rfl, rfl, e ▸ q⟩)
    · exact .inr (.inr (.inl ⟨p, xs, rfl, h1, h2, h3, e ▸ q⟩))
    · exact .inr (.inr (.inr (.inl ⟨d, ds, h1, h2, h3, h4, e ▸ q⟩)))
    · exact .inr (.inr (.inr (.inr ⟨a, o, rfl, g, e ▸ q⟩)))
  · exact h.elim
theorem os_nin (hu : X.A.units + 66 < cLine) : OpSim X (compareOp .NotIn) ninU := by
  refine ⟨_, op_notIn_sign.or (op_notin_str.or (op_notIn_seq.or ((op_notInD (by omega)).or (op_nin_dict (by omega))))), fun w x y v v' Q s rx ry h => ?_⟩
  unfold ninU at h
  split at h
  · rename_i b hb
    have q := OkE.here h s (.bl (!b))
    rcases inB_cases s rx ry hb with ⟨c, z, rfl, rfl, e⟩ | ⟨i, j, rfl, rfl, e⟩ | ⟨p, xs, rfl, h1, h2, h3, e⟩ | ⟨d, ds, h1, h2, h3, h4, e⟩ | ⟨a, o, rfl, g, e⟩
    · exact .inl ⟨c, z, rfl, rfl, e ▸ q⟩
    · exact .inr (.inl ⟨i, j, rfl, rfl, e ▸ q⟩)
    · exact .inr (.inr (.inl ⟨p, xs, rfl, h1, h2, h3, e ▸ q⟩))
    · exact .inr (.inr (.inr (.inl ⟨d, ds, h1, h2, h3, h4, e ▸ q⟩)))
    · exact .inr (.inr (.inr (.inr ⟨a, o, rfl, g, e ▸ q⟩)))
  · exact h.elim
def ixB (x y : U) (S : Sto) : Option U := match x, y with
  | .str z, .int i => if z.length ≤ sizeLine then (atI z.cps.toList i).map fun c => .str ⟨#[c]⟩ else none
  | .tup us, .int i => atI us i
  | x, y => match listOf x S with
    | some us => match y with
      | .int i => atI us i
      | _ => none
    | none => match dictOf x S, keyU y with
      | some (ks, us), some k => valU ks us k
      | _, _ => none
def oU (o : Option U) (S : Sto) : R U := match o with
  | some u => .ok u S
  | none => .bad
def ixU (x y : U) (S : Sto) : R U := oU (ixB x y S) S
theorem atI_rel {K : KM} {w : Wd} {us : List U} {xs : List V} {i : Int} {u : U} (r : VRs K w us xs) (h : atI us i = some u) : ∃ v, atI xs i = some v ∧ VR K w u v := by
  unfold atI at h ⊢
  rw [← r.length]
  cases q : ixN us.length i with
  | none => rw [q] at h; cases h
  | some j =>
    rw [q] at h
    exact r.get h
theorem ix_dict (hu : X.A.units + 1 < cLine) : IxR X (fun x y H Q => ∃ a v, x = .ref a ∧ DGet H a y (some v) ∧ Q v H) := by
  intro value slice pins s σ H x y v u Q I rx ry h hs
  obtain ⟨a, z, rfl, g, q⟩ := h
  cases rx
  exact PyProof.Rows.tail_any (dict_typeIs I g) slot_dict_getitem.lookup (d_getItem hu I g ry fun w' s' I' r' => ⟨z, H, I', r', q⟩) hs
theorem se_ix {a b : Expr} {fa fb : FE} {pos : Pos} (hu : X.A.units + 1 < cLine) (ha : SimE X Wx a fa) (hb : SimE X Wx b fb) (hs : PlainIx b := by intro _ _; rfl) : SimE X Wx (.Subscript a b pos) (f2 ixU fa fb) := by
  obtain ⟨ta, pa, ha⟩ := ha.out
  obtain ⟨tb, pb, hb⟩ := hb.out
  refine SimE.mk (pe_ix (ix_seq.or (ix_dict hu)) pa pb hs) (fun w d σ Q s e h => two (a := a) (b := b) (r := fun x y H Q => rIx X.K x y H Q ∨ ∃ a v, x = .ref a ∧ DGet H a y (some v) ∧ Q v H) ha hb (fun w x y v v' Q s rx ry h => ?_) (fun x y S => by unfold ixU oU; split <;> trivial) w d σ Q s e h)
  unfold ixU oU at h
  split at h
  · rename_i u hu'
    unfold ixB at hu'
    split at hu'
    · split at hu'
      · rename_i z i hl
        cases rx; cases ry
        cases q : atI z.cps.toList i with
        | none => rw [q] at hu'; cases hu'
        | some c => rw [q] at hu'; cases hu'; exact .inl (.inr (.inr ⟨z, i, c, rfl, rfl, hl, q, OkE.here h s (.str _)⟩))
      · cases hu'
    · cases rx with
      | tup hq rs =>
        cases ry
        obtain ⟨v, e1, e2⟩ := atI_rel rs hu'
        exact .inl (.inr (.inl ⟨_, _, _, v, rfl, rfl, hq.sq, e1, OkE.here h s e2⟩))
    · split at hu'
      · rename_i us hl
        split at hu'
        · obtain ⟨p, xs, rfl, q, rs⟩ := listOf_ok s rx hl
          cases ry
          obtain ⟨v, e1, e2⟩ := atI_rel rs hu'
          exact .inl (.inl ⟨_, _, _, v, rfl, rfl, q, e1, OkE.here h s e2⟩)
        · cases hu'
      · split at hu'
        · rename_i ks us k h1 h2
          obtain ⟨p, xs, rfl, q, l, rs⟩ := dictOf_ok s rx h1
          rw [keyU_ok ry h2]
          obtain ⟨v, e1, e2⟩ := (valU_ok (ks := ks) k rs).2 u hu'
          exact .inr ⟨p, v, rfl, by rw [← e1]; exact DGet.k q, OkE.here h s e2⟩
        · cases hu'
  · exact h.elim
def cutU (us : List U) (lo hi : Option Int) : List U := (us.drop (HT.sIx us.length 0 lo)).take (HT.sIx us.length us.length hi - HT.sIx us.length 0 lo)
theorem cut_rel {K : KM} {w : Wd} {us : List U} {xs : List V} (lo hi : Option Int) (r : VRs K w us xs) : VRs K w (cutU us lo hi) (cutV xs lo hi) := by
  unfold cutU cutV
  rw [← r.length]
  exact (r.drop _).take _
abbrev FO := En → Sto → R (Option Int)
def oNone : FO := fun _ S => .ok none S
def oSome (f : FE) : FO := fun d S => (f d S).bind fun u S1 => match u with
  | .int i => .ok (some i) S1
  | _ => .bad
def OkO (X : Cx) (w : Wd) (Q : Option Int → Hp → Prop) (o : Option Int) (S' : Sto) : Prop := ∀ (w' : Wd), w'.S = S' → Stp w w' → SR (KMof X) w' → Q o w'.H
theorem OkO.up {w w1 : Wd} {Q : Option Int → Hp → Prop} {u : Option Int} {S' : Sto} (h : OkO X w Q u S') (st : Stp w w1) : OkO X w1 Q u S' := fun w' e s2 sr => h w' e (st.trans s2) sr
def tO (X : Cx) (Wx : WX) (f : FO) : TO := fun σ H Q => ∃ (w : Wd) (d : En), w.H = H ∧ SR (KMof X) w ∧ ER (KMof X) w d σ ∧ Pst (f d w.S) (OkO X w Q) (XPost X Wx σ w)
def SimO (X : Cx) (Wx : WX) (e : Option Expr) (f : FO) : Prop := PO X e (tO X Wx f)
theorem SimO.out {e : Option Expr} {f : FO} (h : SimO X Wx e f) : ∃ t, PO X e t ∧ ∀ (w : Wd) (d : En) (σ : L2.St) (Q : Option Int → Hp → Prop), SR (KMof X) w → ER (KMof X) w d σ → Pst (f d w.S) (OkO X w Q) (XPost X Wx σ w) → t σ w.H Q := ⟨_, h, fun w d _ _ s e p => ⟨w, d, rfl, s, e, p⟩⟩
theorem SimO.mk {e : Option Expr} {f : FO} {t : TO} (p : PO X e t) (h : ∀ (w : Wd) (d : En) (σ : L2.St) (Q : Option Int → Hp → Prop), SR (KMof X) w → ER (KMof X) w d σ → Pst (f d w.S) (OkO X w Q) (XPost X Wx σ w) → t σ w.H Q) : SimO X Wx e f :=
  ⟨fun pins s σ H Q I ⟨w, d, e, sr, er, q⟩ => p.run pins s σ H Q I (by subst e; exact h w d σ Q sr er q)⟩
theorem so_none : SimO X Wx none oNone := SimO.mk (po_none) (fun w d σ Q s e h => h w rfl (Stp.refl w) s)
theorem so_some {e : Expr} {f : FE} (h : SimE X Wx e f) : SimO X Wx (some e) (oSome f) := by
  obtain ⟨t, p, h⟩ := h.out
  refine SimO.mk (po_some p) (fun w d σ Q s e h0 => ?_)
  refine h w d σ _ s e ((Pst.of_bind h0).mono (fun u S1 h1 w1 v1 eS st s1 r1 => ?_) fun _ _ q => q)
  cases r1 with
  | int i => exact ⟨i, rfl, h1 w1 eS st s1⟩
  | _ => exact h1.elim
def slB (x : U) (lo hi : Option Int) (S : Sto) : Option U := match x with
  | .str z => if z.length ≤ sizeLine then some (.str (cutS z lo hi)) else none
  | .tup us => some (.tup (cutU us lo hi))
  | x => (listOf x S).map fun us => .lst (cutU us lo hi)
def fSl (f : FE) (l h : FO) : FE := fun d S => (f d S).bind fun u S1 => (l d S1).bind fun lo S2 => (h d S2).bind fun hi S3 => oU (slB u lo hi S3) S3
theorem slice_parts {te : TE} {tl th : TO} {f : FE} {l hh : FO}
    (h1 : ∀ (w : Wd) (d : En) (σ : L2.St) (Q : VK), SR (KMof X) w → ER (KMof X) w d σ → Pst (f d w.S) (OkE X w Q) (XPost X Wx σ w) → te σ w.H Q)
    (h2 : ∀ (w : Wd) (d : En) (σ : L2.St) (Q : Option Int → Hp → Prop), SR (KMof X) w → ER (KMof X) w d σ → Pst (l d w.S) (OkO X w Q) (XPost X Wx σ w) → tl σ w.H Q)
    (h3 : ∀ (w : Wd) (d : En) (σ : L2.St) (Q : Option Int → Hp → Prop), SR (KMof X) w → ER (KMof X) w d σ → Pst (hh d w.S) (OkO X w Q) (XPost X Wx σ w) → th σ w.H Q)
    {α : Type} {k : U → Option Int → Option Int → Sto → R α} {P : α → Sto → Prop} {r : V → Option Int → Option Int → Hp → Prop} {w : Wd} {d : En} {σ : L2.St} (s : SR (KMof X) w) (e : ER (KMof X) w d σ)
    (hk : ∀ (w' : Wd) u v lo hi, Stp w w' → SR (KMof X) w' → VR (KMof X) w' u v → Pst (k u lo hi w'.S) P (XPost X Wx σ w) → r v lo hi w'.H)
    (h : Pst ((f d w.S).bind fun u S1 => (l d S1).bind fun lo S2 => (hh d S2).bind fun hi S3 => k u lo hi S3) P (XPost X Wx σ w)) :
    te σ w.H fun x H1 => tl σ H1 fun lo H2 => th σ H2 fun u H3 => r x lo u H3 := by
  refine h1 w d σ _ s e ((Pst.of_bind h).mono (fun x S1 g1 w1 v1 eS st s1 r1 => ?_) fun _ _ q => q)
  subst eS
  have e1 := e.ext st.x s
  refine h2 w1 d σ _ s1 e1 ((Pst.of_bind g1).mono (fun lo S2 g2 w2 eS st2 s2 => ?_) fun _ _ q => q.up st)
  subst eS
  have e2 := e1.ext st2.x s1
  refine h3 w2 d σ _ s2 e2 ((Pst.of_bind g2).mono (fun hi S3 g3 w3 eS st3 s3 => ?_) fun _ _ q => q.up (st.trans st2))
  subst eS
  exact hk w3 x v1 lo hi ((st.trans st2).trans st3) s3 ((r1.ext st2.x s1).ext st3.x s2) g3
theorem se_slice {e : Expr} {lo hi : Option Expr} {f : FE} {l h : FO} {p2 pos : Pos} (h1 : SimE X Wx e f) (h2 : SimO X Wx lo l) (h3 : SimO X Wx hi h) : SimE X Wx (.Subscript e (.Slice lo hi none p2) pos) (fSl f l h) := by
  obtain ⟨te, pe, h1⟩ := h1.out
  obtain ⟨tl, pl, h2⟩ := h2.out
  obtain ⟨th, ph, h3⟩ := h3.out
  refine SimE.mk (pe_slice (sl_str.or (sl_tupA.or sl_list)) pe pl ph) (fun w d σ Q s e h => slice_parts h1 h2 h3 s e (fun w' u v lo hi st s' r g => ?_) h)
  unfold oU at g
  split at g
  · rename_i z hz
    have g := OkE.up g st
    unfold slB at hz
    split at hz
    · split at hz
      · rename_i hl
        cases hz
        cases r
        exact .inl ⟨_, rfl, hl, OkE.here g s' (.str _)⟩
      · cases hz
    · cases hz
      cases r with
      | @tup p xs us hq rs =>
        refine .inr (.inl ⟨p, xs, rfl, hq.sq, fun q => ?_, fun q z hz => ?_⟩)
        · refine OkE.here g s' (.tup hq ?_)
          unfold cutU
          rw [rs.length, q.1, q.2, List.drop_zero, Nat.sub_zero, ← rs.length, List.take_length]
          exact rs
        · have st := Stp.new s' (o := .tup (cutV xs lo hi)) hz
          exact g (w'.new z _) (.ref z) rfl st (s'.new hz) (.tup (TqT.of upd_same) ((cut_rel lo hi rs).ext st.x s'))
    · rename_i x _ _
      cases q : listOf u w'.S with
      | none => rw [q] at hz; cases hz
      | some us =>
        rw [q] at hz
        cases hz
        obtain ⟨p, xs, rfl, hq, rs⟩ := listOf_ok s' r q
        refine .inr (.inr ⟨p, xs, rfl, hq, fun z hz => ?_⟩)
        have st := Stp.new s' (o := .lst (cutV xs lo hi)) hz
        exact g (w'.new z _) (.ref z) rfl st (s'.new hz) (.lst upd_same (fun q => s'.tracked q hz) ((cut_rel lo hi rs).ext st.x s'))
  · exact g.elim
def aSl (f : FE) (l h : FO) : FA := fun d S => (f d S).bind fun u S1 => (l d S1).bind fun lo S2 => (h d S2).bind fun hi S3 => match listOf u S3 with
  | some us => .ok (cutU us lo hi) S3
  | none => .bad
theorem sl_slice {e : Expr} {lo hi : Option Expr} {f : FE} {l h : FO} {p2 pos : Pos} (h1 : SimE X Wx e f) (h2 : SimO X Wx lo l) (h3 : SimO X Wx hi h) : SimL X Wx (.Subscript e (.Slice lo hi none p2) pos) (aSl f l h) := by
  obtain ⟨te, pe, h1⟩ := h1.out
  obtain ⟨tl, pl, h2⟩ := h2.out
  obtain ⟨th, ph, h3⟩ := h3.out
  refine SimL.mk (pe_slice sl_list pe pl ph) (fun w d σ Q s e h => slice_parts h1 h2 h3 s e (fun w' u v lo hi st s' r g => ?_) h)
  split at g
  · rename_i us q
    obtain ⟨p, xs, rfl, hq, rs⟩ := listOf_ok s' r q
    exact ⟨p, xs, rfl, hq, fun z hz => (OkL.up g st) w' z _ rfl (Stp.refl w') s' (cut_rel lo hi rs) hz⟩
  · exact g.elim
def CallSim (X : Cx) (f : Value) (g : List U → Sto → R U) : Prop := ∃ r, CallR X f r ∧ (∀ us S, noX (g us S)) ∧
  ∀ (w : Wd) (us : List U) (vs : List V) (Q : VK), SR (KMof X) w → VRs (KMof X) w us vs → Pst (g us w.S) (OkE X w Q) (fun _ _ => False) → r vs w.H Q
def CallSimL (X : Cx) (f : Value) (g : List U → Sto → R (List U)) : Prop := ∃ r, CallR X f r ∧
  ∀ (w : Wd) (us : List U) (vs : List V) (Q : VK) (E : Exc → Sto → Prop), SR (KMof X) w → VRs (KMof X) w us vs → Pst (g us w.S) (OkL X w Q) E → r vs w.H Q
def fA {α : Type} (g : List U → Sto → R α) (fa : FA) : En → Sto → R α := fun d S => (fa d S).bind g
theorem cb_core {es : List Expr} {fa : FA} {ta : TA} {g : List U → Sto → R U} {r : List V → Hp → VK → Prop} (hn : ∀ us S, noX (g us S))
    (hg : ∀ (w : Wd) (us : List U) (vs : List V) (Q : VK), SR (KMof X) w → VRs (KMof X) w us vs → Pst (g us w.S) (OkE X w Q) (fun _ _ => False) → r vs w.H Q)
    (ha : ∀ (w : Wd) (d : En) (σ : L2.St) (Q : List V → Hp → Prop), SR (KMof X) w → ER (KMof X) w d σ → Pst (fa d w.S) (OkA X w Q) (XPost X Wx σ w) → ta σ w.H Q)
    (w : Wd) (d : En) (σ : L2.St) (Q : VK) (s : SR (KMof X) w) (e : ER (KMof X) w d σ) (h : Pst (fA g fa d w.S) (OkE X w Q) (XPost X Wx σ w)) : ta σ w.H fun vs H1 => r vs H1 Q := by
  refine ha w d σ _ s e ((Pst.of_bind h).mono (fun us S1 h1 w1 vs eS st s1 rs => ?_) fun _ _ q => q)
  subst eS
  exact hg w1 us vs Q s1 rs ((pst_noX h1 (hn us w1.S)).mono (fun _ _ q => q.up st) fun _ _ q => q)
theorem cb_coreL {es : List Expr} {fa : FA} {ta : TA} {g : List U → Sto → R (List U)} {r : List V → Hp → VK → Prop}
    (hg : ∀ (w : Wd) (us : List U) (vs : List V) (Q : VK) (E : Exc → Sto → Prop), SR (KMof X) w → VRs (KMof X) w us vs → Pst (g us w.S) (OkL X w Q) E → r vs w.H Q)
    (ha : ∀ (w : Wd) (d : En) (σ : L2.St) (Q : List V → Hp → Prop), SR (KMof X) w → ER (KMof X) w d σ → Pst (fa d w.S) (OkA X w Q) (XPost X Wx σ w) → ta σ w.H Q)
    (w : Wd) (d : En) (σ : L2.St) (Q : VK) (s : SR (KMof X) w) (e : ER (KMof X) w d σ) (h : Pst (fA g fa d w.S) (OkL X w Q) (XPost X Wx σ w)) : ta σ w.H fun vs H1 => r vs H1 Q := by
  refine ha w d σ _ s e ((Pst.of_bind h).mono (fun us S1 h1 w1 vs eS st s1 rs => ?_) fun _ _ q => q)
  subst eS
  exact hg w1 us vs Q _ s1 rs (h1.mono (fun _ _ q => q.up st) fun _ _ q => q)
variable {x : Str} {p pos apos cpos : Pos} {e o : Expr} {es : List Expr} {id T : String} {fa : FA} {fo : FE}
theorem se_callB {g : List U → Sto → R U} (hc : CallSim X (.builtin id) g) (hg : Gl X x) (hm : X.mg x = none) (hv : bootBuiltins x = some (.builtin id)) (ha : SimA X Wx (e :: es) fa) (hn : x ≠ "__name__" := by decide) (hdb : (x == ("__debug__" : Str)) = false := by decide)
    (he : starEach (e :: es) X.env = (false, eval e X.env) :: starEach es X.env := by rfl) (hpl : (backTo pos (starEach es X.env)).any (·.1) = false := by rfl) : SimE X Wx (.Call (.Name x p) (e :: es) [] pos) (fA g fa) := by
  obtain ⟨r, hc, hx, hr⟩ := hc
  obtain ⟨ta, pa, ha⟩ := ha.out
  exact SimE.mk (pe_callB hc hg hm hv pa hn hdb he hpl) (fun w d σ Q s e h => cb_core (es := es) hx hr ha w d σ Q s e h)
theorem se_callTy {g : List U → Sto → R U} (hc : CallSim X (.type T) g) (hg : Gl X x) (hm : X.mg x = none) (hv : bootBuiltins x = some (.type T)) (ha : SimA X Wx (e :: es) fa) (hn : x ≠ "__name__" := by decide) (hdb : (x == ("__debug__" : Str)) = false := by decide)
    (he : starEach (e :: es) X.env = (false, eval e X.env) :: starEach es X.env := by rfl) (hpl : (backTo pos (starEach es X.env)).any (·.1) = false := by rfl) : SimE X Wx (.Call (.Name x p) (e :: es) [] pos) (fA g fa) := by
  obtain ⟨r, hc, hx, hr⟩ := hc
  obtain ⟨ta, pa, ha⟩ := ha.out
  exact SimE.mk (pe_callTy hc hg hm hv pa hn hdb he hpl) (fun w d σ Q s e h => cb_core (es := es) hx hr ha w d σ Q s e h)
theorem sl_callB {g : List U → Sto → R (List U)} (hc : CallSimL X (.builtin id) g) (hg : Gl X x) (hm : X.mg x = none) (hv : bootBuiltins x = some (.builtin id)) (ha : SimA X Wx (e :: es) fa) (hn : x ≠ "__name__" := by decide) (hdb : (x == ("__debug__" : Str)) = false := by decide)
    (he : starEach (e :: es) X.env = (false, eval e X.env) :: starEach es X.env := by rfl) (hpl : (backTo pos (starEach es X.env)).any (·.1) = false := by rfl) : SimL X Wx (.Call (.Name x p) (e :: es) [] pos) (fA g fa) := by
  obtain ⟨r, hc, hr⟩ := hc
  obtain ⟨ta, pa, ha⟩ := ha.out
  exact SimL.mk (pe_callB hc hg hm hv pa hn hdb he hpl) (fun w d σ Q s e h => cb_coreL (es := es) hr ha w d σ Q s e h)
theorem sl_callTy {g : List U → Sto → R (List U)} (hc : CallSimL X (.type T) g) (hg : Gl X x) (hm : X.mg x = none) (hv : bootBuiltins x = some (.type T)) (ha : SimA X Wx (e :: es) fa) (hn : x ≠ "__name__" := by decide) (hdb : (x == ("__debug__" : Str)) = false := by decide)
    (he : starEach (e :: es) X.env = (false, eval e X.env) :: starEach es X.env := by rfl) (hpl : (backTo pos (starEach es X.env)).any (·.1) = false := by rfl) : SimL X Wx (.Call (.Name x p) (e :: es) [] pos) (fA g fa) := by
  obtain ⟨r, hc, hr⟩ := hc
  obtain ⟨ta, pa, ha⟩ := ha.out
  exact SimL.mk (pe_callTy hc hg hm hv pa hn hdb he hpl) (fun w d σ Q s e h => cb_coreL (es := es) hr ha w d σ Q s e h)
def tyU (T : String) (u : U) (S : Sto) : Bool := match u with
  | .str _ => T == "str"
  | .int _ => T == "int"
  | .lst _ => T == "list"
  | .frz _ => T == "list"
  | .dic _ _ => T == "dict"
  | .loc n => match S[n]? with
    | some (.lst _) => T == "list"
    | some (.dic _ _) => T == "dict"
    | _ => false
  | _ => false
theorem tyU_ok {w : Wd} {u : U} {v : V} {T : String} (s : SR (KMof X) w) (r : VR (KMof X) w u v) (h : tyU T u w.S = true) : tyV X.K T v w.H := by
  cases r with
  | str z => exact eq_of_beq h
  | int i => exact eq_of_beq h
  | lst hq n rs => exact .inl ⟨eq_of_beq h, _, SqL.of hq⟩
  | frz hq rs => exact .inl ⟨eq_of_beq h, _, hq.sq⟩
  | dic hq n l rs => exact .inr (.inr (.inl ⟨eq_of_beq h, .inl ⟨_, hq⟩⟩))
  | @loc n a hm =>
    unfold tyU at h
    dsimp only at h
    split at h
    · rename_i us hS
      obtain ⟨xs, q, rs⟩ := s.obj n a _ hm hS
      exact .inl ⟨eq_of_beq h, _, SqL.of q⟩
    · rename_i ks us hS
      obtain ⟨xs, q, l, rs⟩ := s.obj n a _ hm hS
      exact .inr (.inr (.inl ⟨eq_of_beq h, .inl ⟨_, q⟩⟩))
    · cases h
  | _ => cases h
def MtSim (X : Cx) (id : String) (g : U → List U → Sto → R U) : Prop := ∃ r, MtR X id r ∧ (∀ u us S, noX (g u us S)) ∧
  ∀ (w : Wd) (u : U) (us : List U) (v : V) (vs : List V) (Q : VK), SR (KMof X) w → VR (KMof X) w u v → VRs (KMof X) w us vs → Pst (g u us w.S) (OkE X w Q) (fun _ _ => False) → r v vs w.H Q
def fM (T : String) (g : U → List U → Sto → R U) (fo : FE) (fa : FA) : FE := fun d S => (fo d S).bind fun u S1 => guard (tyU T u S1) ((fa d S1).bind fun us S2 => g u us S2)
theorem se_bm {name : Str} {g : U → List U → Sto → R U} (pa : PlainAttrs T) (slot : Slot T name id) (hty : typeOf (.builtin id) = pure (.type "method_descriptor")) (hm : MtSim X id g) (ho : SimE X Wx o fo) (ha : SimA X Wx (e :: es) fa)
    (hbase : attributeBase o name X.env (eval o X.env) = eval o X.env := by rfl)
    (hfew : ((backTo cpos (starEach (e :: es) X.env)).all (fun x => !x.1) && (backToKw cpos (keywordEach [] X.env)).all (fun x => x.1.isSome)
      && decide ((e :: es).length + ([] : List Keyword).length + (if ([] : List Keyword).isEmpty then 0 else 1) < 30)) = true := by rfl)
    (hline : (apos.endLine == cpos.line) = true := by rfl) (hs : starEach (e :: es) X.env = (false, eval e X.env) :: starEach es X.env := by rfl) (hplain : (backTo cpos (starEach es X.env)).any (·.1) = false := by rfl) :
    SimE X Wx (.Call (.Attribute o name apos) (e :: es) [] cpos) (fM T g fo fa) := by
  obtain ⟨r, hm, hx, hr⟩ := hm
  obtain ⟨to, po, ho⟩ := ho.out
  obtain ⟨ta, pa', ha⟩ := ha.out
  refine SimE.mk (pe_bm pa slot hty hm po pa' hbase hfew hline hs hplain) (fun w d σ Q s e h => ?_)
  refine ho w d σ _ s e ((Pst.of_bind h).mono (fun u S1 h1 w1 v eS st s1 ru => ?_) fun _ _ q => q)
  subst eS
  obtain ⟨ht, h1⟩ := guard_post h1
  refine ⟨tyU_ok s1 ru ht, ?_⟩
  refine ha w1 d σ _ s1 (e.ext st.x s) ((Pst.of_bind h1).mono (fun us S2 h2 w2 vs eS st2 s2 rs => ?_) fun _ _ q => q.up st)
  subst eS
  exact hr w2 u us v vs Q s2 (ru.ext st2.x s1) rs ((pst_noX h2 (hx u us w2.S)).mono (fun _ _ q => q.up (st.trans st2)) fun _ _ q => q)
theorem se_bm0 {name : Str} {g : U → List U → Sto → R U} (pa : PlainAttrs T) (slot : Slot T name id) (hty : typeOf (.builtin id) = pure (.type "method_descriptor")) (hm : MtSim X id g) (ho : SimE X Wx o fo)
    (hbase : attributeBase o name X.env (eval o X.env) = eval o X.env := by rfl) (hline : (apos.endLine == cpos.line) = true := by rfl) :
    SimE X Wx (.Call (.Attribute o name apos) [] [] cpos) (fM T g fo aNil) := by
  obtain ⟨r, hm, hx, hr⟩ := hm
  obtain ⟨to, po, ho⟩ := ho.out
  refine SimE.mk (pe_bm0 pa slot hty hm po hbase hline) (fun w d σ Q s e h => ?_)
  refine ho w d σ _ s e ((Pst.of_bind h).mono (fun u S1 h1 w1 v eS st s1 ru => ?_) fun _ _ q => q)
  subst eS
  obtain ⟨ht, h1⟩ := guard_post h1
  exact ⟨tyU_ok s1 ru ht, hr w1 u [] v [] Q s1 ru .nil ((pst_noX h1 (hx u [] w1.S)).mono (fun _ _ q => q.up st) fun _ _ q => q)⟩
end
end DL
namespace DL
open PySem PySem.Spec L2
section
variable {X : Cx} {Wx : WX}
def lenU (u : U) (S : Sto) : Option Nat := match u with
  | .str z => if z.length ≤ sizeLine then some z.length else none
  | .tup us => some us.length
  | u => match listOf u S with
    | some us => some us.length
    | none => (dictOf u S).map fun p => p.1.length
def lenC (us : List U) (S : Sto) : R U := match us with
  | [u] => match lenU u S with
    | some n => .ok (.int n) S
    | none => .bad
  | _ => .bad
theorem zip_len {K : KM} {w : Wd} {ks : List Key} {us : List U} {xs : List V} (l : ks.length = us.length) (r : VRs K w us xs) : (ks.zip xs).length = ks.length := by
  rw [List.length_zip, ← r.length, ← l, Nat.min_self]
theorem cs_len : CallSim X (.builtin "len") lenC := by
  refine ⟨_, call_len.or call_lenD, fun us S => by unfold lenC; split <;> first | trivial | (split <;> trivial), fun w us vs Q s rs h => ?_⟩
  unfold lenC at h
  split at h
  · rename_i u
    cases rs with
    | cons r rs =>
      cases rs
      split at h
      · rename_i n hn
        have q := OkE.here h s (.int n)
        unfold lenU at hn
        split at hn
        · split at hn
          · rename_i hl
            cases hn; cases r
            exact .inl ⟨_, _, rfl, ⟨hl, rfl⟩, q⟩
          · cases hn
        · cases hn
          cases r with
          | tup hq rs => exact .inl ⟨_, _, rfl, .inr ⟨_, hq.sq, rs.length⟩, q⟩
        · split at hn
          · rename_i us hl
            cases hn
            obtain ⟨a, xs, rfl, hq, rs⟩ := listOf_ok s r hl
            exact .inl ⟨_, _, rfl, .inl ⟨_, hq, rs.length⟩, q⟩
          · cases hd : dictOf u w.S with
            | none => rw [hd] at hn; cases hn
            | some p =>
              obtain ⟨ks, us⟩ := p
              rw [hd] at hn
              cases hn
              obtain ⟨a, xs, rfl, hq, l, rs⟩ := dictOf_ok s r hd
              refine .inr ⟨a, _, rfl, hq, ?_⟩
              rw [zip_len l rs]
              exact q
      · exact h.elim
  · exact h.elim
def tyName (u : U) (S : Sto) : Option String := match u with
  | .non => some "NoneType"
  | .bl _ => some "bool"
  | .int _ => some "int"
  | .str _ => some "str"
  | .tup _ => some "tuple"
  | .lst _ => some "list"
  | .frz _ => some "list"
  | .dic _ _ => some "dict"
  | .loc n => match S[n]? with
    | some (.lst _) => some "list"
    | some (.dic _ _) => some "dict"
    | _ => none
  | .ty _ => none
  | .exc _ _ _ => none
  | .cl _ => none
theorem tyName_ok {w : Wd} {u : U} {v : V} {t : String} (s : SR (KMof X) w) (r : VR (KMof X) w u v) (h : tyName u w.S = some t) : TyX X.K w.H v (.type t) := by
  cases r with
  | non => cases h; exact .base .non
  | bl b => cases h; exact .base (.bl b)
  | int i => cases h; exact .base (.int i)
  | str x => cases h; exact .base (.str x)
  | tup hq rs =>
    cases h
    rcases hq with q | ⟨o, its, n, h1, h2, _⟩
    · exact .base (.tup q)
    · exact .kTuple h1 h2
  | lst hq n rs => cases h; exact .base (.lst hq)
  | frz hq rs =>
    cases h
    rcases hq with ⟨o, q⟩ | ⟨o, its, n, h1, h2, _⟩
    · exact .base (.frz q)
    · exact .kList h1 h2
  | dic hq n l rs => cases h; exact .base (.dK hq)
  | @loc n a hm =>
    unfold tyName at h
    dsimp only at h
    split at h
    · rename_i us hS
      cases h
      obtain ⟨xs, q, rs⟩ := s.obj n a _ hm hS
      exact .base (.lst q)
    · rename_i ks us hS
      cases h
      obtain ⟨xs, q, l, rs⟩ := s.obj n a _ hm hS
      exact .base (.dK q)
    · cases h
  | ty n => cases h
  | exc _ _ _ _ => cases h
  | cl _ => cases h
def isK (a b : String) : Bool := a == b || (a == "bool" && b == "int")
def kinds : List String := ["NoneType", "bool", "int", "str", "tuple", "list", "dict"]
def asked : List String := ["bool", "int", "str", "tuple", "list", "dict"]
theorem kit_all : (kinds.all fun a => asked.all fun b => decide (kitB a b = some (isK a b))) = true := by decide +kernel
theorem kit_isK {a b : String} (ha : a ∈ kinds) (hb : b ∈ asked) : kitB a b = some (isK a b) := by
  have h := List.all_eq_true.mp kit_all a ha
  exact of_decide_eq_true (List.all_eq_true.mp h b hb)
theorem tyName_kinds {u : U} {S : Sto} {t : String} (h : tyName u S = some t) : t ∈ kinds := by
  unfold tyName at h
  split at h
  all_goals first
    | (cases h; decide)
    | (split at h <;> first | (cases h; decide) | cases h)
    | cases h
def isiC (us : List U) (S : Sto) : R U := match us with
  | [u, .ty b] => match tyName u S with
    | some a => guard (asked.contains b) (.ok (.bl (isK a b)) S)
    | none => .bad
  | [u, .tup [.ty b, .ty c]] => match tyName u S with
    | some a => guard (asked.contains b && asked.contains c) (.ok (.bl (isK a b || isK a c)) S)
    | none => .bad
  | _ => .bad
theorem noX_isi (us : List U) (S : Sto) : noX (isiC us S) := by
  unfold isiC
  split
  · split <;> first | trivial | exact noX_guard trivial
  · split <;> first | trivial | exact noX_guard trivial
  · trivial
theorem cs_isi : CallSim X (.builtin "isinstance") isiC := by
  refine ⟨_, call_isi.or (call_isiT.or call_isiK), noX_isi, fun w us vs Q s rs h => ?_⟩
  unfold isiC at h
  split at h
  · rename_i u b
    split at h
    · rename_i a ha
      obtain ⟨hb, h⟩ := guard_post h
      have hb' : b ∈ asked := List.contains_iff_mem.mp hb
      cases rs with
      | cons r rs =>
        cases rs with
        | cons r2 rs =>
          cases rs
          cases r2
          exact .inl ⟨_, _, _, _, _, rfl, .ty b, tyName_ok s r ha, kit_ty (kit_isK (tyName_kinds ha) hb'), OkE.here h s (.bl _)⟩
    · exact h.elim
  · rename_i u b c
    split at h
    · rename_i a ha
      obtain ⟨hb, h⟩ := guard_post h
      rw [Bool.and_eq_true] at hb
      have hb' : b ∈ asked := List.contains_iff_mem.mp hb.1
      have hc' : c ∈ asked := List.contains_iff_mem.mp hb.2
      have hk := tyName_kinds ha
      have kk : ∀ K, PySem.W.kitAny K (.type a) [.type b, .type c] = some (isK a b || isK a c) := fun K => by
        refine kitAny_cons (kit_ty (kit_isK hk hb')) (fun e => ?_) (fun e => by rw [e]; rfl)
        rw [e, Bool.false_or]
        exact kitAny_cons (kit_ty (kit_isK hk hc')) (fun e => by rw [e]; exact kitAny_nil) (fun e => e)
      cases rs with
      | cons r rs =>
        cases rs with
        | cons r2 rs =>
          cases rs
          cases r2 with
          | @tup tp xs _ hq rs2 =>
            cases rs2 with
            | cons q1 rs2 =>
              cases rs2 with
              | cons q2 rs2 =>
                cases rs2
                cases q1
                cases q2
                rcases hq with q | ⟨o, its, n, h1, h2, h3, h4, h5⟩
                · exact .inr (.inl ⟨_, tp, _, _, _, _, rfl, q, .cons (.ty b) (.cons (.ty c) .nil), tyName_ok s r ha, kk _, OkE.here h s (.bl _)⟩)
                · obtain ⟨oc, od, dt, sl⟩ := o
                  simp only at h2 h3
                  subst h2 h3
                  have e5 : its.toList = [.type b, .type c] := ClsV.all (.cons (.ty b) (.cons (.ty c) .nil)) h5
                  have e6 : its = ([.type b, .type c] : List Value).toArray := by rw [← e5]
                  subst e6
                  exact .inr (.inr ⟨_, tp, od, _, n, sl, _, _, rfl, h1, tyName_ok s r ha, kk _, OkE.here h s (.bl _)⟩)
    · exact h.elim
  · exact h.elim
def minC (us : List U) (S : Sto) : R U := match us with
  | [.int i, .int j] => .ok (.int (if j < i then j else i)) S
  | _ => .bad
def maxC (us : List U) (S : Sto) : R U := match us with
  | [.int i, .int j] => .ok (.int (if j > i then j else i)) S
  | _ => .bad
def intC (us : List U) (S : Sto) : R U := match us with
  | [.int i] => .ok (.int i) S
  | [.bl b] => .ok (.int (if b then 1 else 0)) S
  | _ => .bad
theorem cs_min (hc : X.calm = true) : CallSim X (.builtin "min") minC := by
  refine ⟨_, call_min2 hc, fun us S => by unfold minC; split <;> trivial, fun w us vs Q s rs h => ?_⟩
  unfold minC at h
  split at h
  · cases rs with
    | cons r rs =>
      cases rs with
      | cons r2 rs =>
        cases rs; cases r; cases r2
        exact ⟨_, _, rfl, OkE.here h s (.int _)⟩
  · exact h.elim
theorem cs_max (hc : X.calm = true) : CallSim X (.builtin "max") maxC := by
  refine ⟨_, call_max2 hc, fun us S => by unfold maxC; split <;> trivial, fun w us vs Q s rs h => ?_⟩
  unfold maxC at h
  split at h
  · cases rs with
    | cons r rs =>
      cases rs with
      | cons r2 rs =>
        cases rs; cases r; cases r2
        exact ⟨_, _, rfl, OkE.here h s (.int _)⟩
  · exact h.elim
theorem cs_int : CallSim X (.type "int") intC := by
  refine ⟨_, call_int1, fun us S => by unfold intC; split <;> trivial, fun w us vs Q s rs h => ?_⟩
  unfold intC at h
  split at h
  · cases rs with
    | cons r rs => cases rs; cases r; exact .inl ⟨_, rfl, OkE.here h s (.int _)⟩
  · cases rs with
    | cons r rs => cases rs; cases r; exact .inr ⟨_, rfl, OkE.here h s (.int _)⟩
  · exact h.elim
def boolsOf : List U → Option (List Bool)
  | [] => some []
  | .bl b :: us => (boolsOf us).map (b :: ·)
  | _ => none
def strsOf : List U → Option (List Str)
  | [] => some []
  | .str i :: us => (strsOf us).map (i :: ·)
  | _ => none
theorem boolsOf_ok {K : KM} {w : Wd} : ∀ {us : List U} {vs : List V} {bs : List Bool}, VRs K w us vs → boolsOf us = some bs → vs = bs.map V.bl
  | _, _, _, .nil, h => by cases h; rfl
  | _, _, _, .cons (us := us) r rs, h => by
    cases r with
    | bl b =>
      unfold boolsOf at h
      cases e : boolsOf us with
      | none => rw [e] at h; cases h
      | some bs => rw [e] at h; cases h; rw [boolsOf_ok rs e]; rfl
    | _ => unfold boolsOf at h; cases h
theorem strsOf_ok {K : KM} {w : Wd} : ∀ {us : List U} {vs : List V} {bs : List Str}, VRs K w us vs → strsOf us = some bs → vs = bs.map V.str
  | _, _, _, .nil, h => by cases h; rfl
  | _, _, _, .cons (us := us) r rs, h => by
    cases r with
    | str b =>
      unfold strsOf at h
      cases e : strsOf us with
      | none => rw [e] at h; cases h
      | some bs => rw [e] at h; cases h; rw [strsOf_ok rs e]; rfl
    | _ => unfold strsOf at h; cases h
def overL {α : Type} (p : List U → Option α) (k : α → U) (us : List U) (S : Sto) : R U := match us with
  | [u] => match listOf u S with
    | some xs => match p xs with
      | some a => .ok (k a) S
      | none => .bad
    | none => .bad
  | _ => .bad
theorem noX_over {α : Type} (p : List U → Option α) (k : α → U) (us : List U) (S : Sto) : noX (overL p k us S) := by
  unfold overL
  split
  · split
    · split <;> trivial
    · trivial
  · trivial
theorem over_ok {α : Type} {p : List U → Option α} {k : α → U} {w : Wd} {us : List U} {vs : List V} {Q : VK} {E : Exc → Sto → Prop} (s : SR (KMof X) w) (rs : VRs (KMof X) w us vs) (h : Pst (overL p k us w.S) (OkE X w Q) E) (hE : ∀ x S, ¬ E x S) :
    ∃ a xs ys b, vs = [.ref a] ∧ SqL X.K w.H a ys ∧ VRs (KMof X) w xs ys ∧ p xs = some b ∧ OkE X w Q (k b) w.S := by
  unfold overL at h
  split at h
  · cases rs with
    | cons r rs =>
      cases rs
      split at h
      · rename_i xs hl
        split at h
        · rename_i b hb
          obtain ⟨a, ys, rfl, hq, q⟩ := listOf_ok s r hl
          exact ⟨a, xs, ys, b, rfl, hq, q, hb, h⟩
        · exact h.elim
      · exact h.elim
  · exact h.elim
abbrev allC := overL boolsOf fun bs => .bl (bs.all id)
theorem cs_all (hc : X.calm = true) : CallSim X (.builtin "all") allC := by
  refine ⟨_, cr_all hc, noX_over _ _, fun w us vs Q s rs h => ?_⟩
  obtain ⟨a, xs, ys, b, rfl, hq, r, e, q⟩ := over_ok s rs h fun _ _ z => z
  rw [boolsOf_ok r e] at hq
  exact ⟨a, b, rfl, hq, OkE.here q s (.bl _)⟩
def seqOf (u : U) (S : Sto) : Option (List U) := match u with
  | .tup us => some us
  | u => listOf u S
theorem seqOf_ok {w : Wd} {u : U} {v : V} {us : List U} (s : SR (KMof X) w) (r : VR (KMof X) w u v) (h : seqOf u w.S = some us) : ∃ a xs, v = .ref a ∧ (SqL X.K w.H a xs ∨ SqT X.K w.H a xs) ∧ VRs (KMof X) w us xs := by
  unfold seqOf at h
  split at h
  · cases h
    cases r with
    | tup hq rs => exact ⟨_, _, rfl, .inr hq.sq, rs⟩
  · obtain ⟨a, xs, e, q, rs⟩ := listOf_ok s r h
    exact ⟨a, xs, e, .inl q, rs⟩
def listC (us : List U) (S : Sto) : R (List U) := match us with
  | [u] => match seqOf u S with
    | some xs => .ok xs S
    | none => .bad
  | _ => .bad
theorem cl_list : CallSimL X (.type "list") listC := by
  refine ⟨_, call_list_of, fun w us vs Q E s rs h => ?_⟩
  unfold listC at h
  split at h
  · cases rs with
    | cons r rs =>
      cases rs
      split at h
      · rename_i xs hl
        obtain ⟨a, ys, rfl, hq, q⟩ := seqOf_ok s r hl
        exact ⟨a, ys, rfl, hq, fun l hl => h w l ys rfl (Stp.refl w) s q hl⟩
      · exact h.elim
  · exact h.elim
def appM (u : U) (us : List U) (S : Sto) : R U := match u, us with
  | .loc n, [y] => match S[n]? with
    | some (.lst xs) => guard (decide (xs.length < sizeLine)) (.ok .non (S.set n (.lst (xs ++ [y]))))
    | _ => .bad
  | _, _ => .bad
theorem ms_append : MtSim X "list.append" appM := by
  refine ⟨_, mt_append, fun u us S => by unfold appM; split <;> first | trivial | (split <;> first | trivial | exact noX_guard trivial), fun w u us v vs Q s r rs h => ?_⟩
  unfold appM at h
  split at h
  · rename_i n y
    split at h
    · rename_i xs hS
      obtain ⟨hl, h⟩ := guard_post h
      cases r with
      | @loc _ a hm =>
        cases rs with
        | cons ry rs =>
          cases rs
          obtain ⟨ys, q, r2⟩ := s.obj n a _ hm hS
          rename_i vy
          refine ⟨a, ys, vy, rfl, rfl, q, by rw [← r2.length]; exact of_decide_eq_true hl, ?_⟩
          have st : Stp w (w.put n a (.lst (ys ++ [vy])) (.lst (xs ++ [y]))) := Stp.put s hm hS (by intro z; cases z)
          exact h _ .non rfl st (s.put hm hS (by intro z; cases z) ⟨_, upd_same, (r2.snoc ry).ext st.x s⟩) .non
    · exact h.elim
  · exact h.elim
def splitM (u : U) (us : List U) (S : Sto) : R U := match u, us with
  | .str a, [.str b] => guard (!(b.length == 0) && decide (a.length + 2 ≤ sizeLine)) (.ok (.lst ((Txt.split a b).map .str)) S)
  | _, _ => .bad
theorem strs_rel {K : KM} {w : Wd} : ∀ ys : List Str, VRs K w (ys.map .str) (ys.map V.str)
  | [] => .nil
  | y :: ys => .cons (.str y) (strs_rel ys)
theorem new_strs {w : Wd} {Q : VK} {ys : List Str} (s : SR (KMof X) w) (h : OkE X w Q (.lst (ys.map .str)) w.S) : rNewStrs ys w.H Q := fun p hp => by
  have st := Stp.new s (o := .lst (ys.map V.str)) hp
  exact h (w.new p _) (.ref p) rfl st (s.new hp) (.lst upd_same (fun q => s.tracked q hp) (strs_rel ys))
theorem ms_split : MtSim X "str.split" splitM := by
  refine ⟨_, mt_split, fun u us S => by unfold splitM; split <;> first | trivial | exact noX_guard trivial, fun w u us v vs Q s r rs h => ?_⟩
  unfold splitM at h
  split at h
  · obtain ⟨hl, h⟩ := guard_post h
    rw [Bool.and_eq_true, Bool.not_eq_true'] at hl
    cases r
    cases rs with
    | cons r2 rs =>
      cases rs; cases r2
      exact ⟨_, _, rfl, rfl, hl.1, of_decide_eq_true hl.2, new_strs s h⟩
  · exact h.elim
def joinM (u : U) (us : List U) (S : Sto) : R U := match u, us with
  | .str a, [l] => match seqOf l S with
    | some xs => match strsOf xs with
      | some ys => guard (decide ((ys.map (·.length)).sum + ys.length * a.length ≤ 16777216)) (.ok (.str (Txt.join a ys)) S)
      | none => .bad
    | none => .bad
  | _, _ => .bad
theorem ms_join : MtSim X "str.join" joinM := by
  refine ⟨_, mt_join, fun u us S => by unfold joinM; split <;> first | trivial | (split <;> first | trivial | (split <;> first | trivial | exact noX_guard trivial)), fun w u us v vs Q s r rs h => ?_⟩
  unfold joinM at h
  split at h
  · split at h
    · rename_i xs hx
      split at h
      · rename_i ys hy
        obtain ⟨hl, h⟩ := guard_post h
        cases r
        cases rs with
        | cons r2 rs =>
          cases rs
          obtain ⟨p, zs, rfl, hq, q⟩ := seqOf_ok s r2 hx
          have e := strsOf_ok q hy
          subst e
          exact ⟨_, p, ys, rfl, rfl, hq, of_decide_eq_true hl, OkE.here h s (.str _)⟩
      · exact h.elim
    · exact h.elim
  · exact h.elim
end
end DL
namespace DL
open PySem PySem.Spec L2
def spOf (K : KM) (n : Nat) (g : List U → Sto → R U) : Sp := fun vs H Q E => ∃ (w : Wd) (us : List U), w.H = H ∧ SR K w ∧ VRs K w us vs ∧ us.length = n ∧
  Pst (g us w.S) (fun u S' => ∀ (w' : Wd) (v : V), w'.S = S' → Stp w w' → SR K w' → VR K w' u v → Q v w'.H)
    (fun x S' => ∀ (w' : Wd) (cls : Value) (d : Option Addr), w'.S = S' → Stp w w' → SR K w' → XRel K w' x cls d → E cls d w'.H)
def endB (fl : Fl) (S : Sto) : R U := match fl with
  | .nx _ => .ok .non S
  | .rt u => .ok u S
  | .ex x _ => .exc x S
  | _ => .bad
def runB (body : FS) (d : En) (S : Sto) : R U := match body d S with
  | .ok fl S' => endB fl S'
  | _ => .bad
theorem fn_sim {P : Program} {w : World} {K : PySem.W.Frag} {mg : Str → Option Value} {base : Heap} {x qual : Str} {st : Stmt} {f : Addr} {fd : FuncData} {N ps : List Str} {k : Nat} {g : List U → Sto → R U} {body : FS}
    (F : Fun K x qual st f fd) (Sc : FnScope N ps (defScope st)) (hg : ∀ us S, us.length = ps.length → g us S = runB body (enStart N.length us) S)
    (hbody : ∀ (cdv : Value) (A : Around) (outer : List Env) (s : Shared) (H : Hp) (E : XK), Room k (A.deeper (PyProof.Rows.envOfC qual (defScope st) s.heap.objs.size f cdv)) →
      SimB (cxOf (L2.CX P w) P w K mg base N qual (defScope st) f cdv A outer s H E) (fun cls d _ H' => E cls d H') (defBody st) body) : FnOk P w K mg base (L2.CX P w) (k + 1) f fd ps (spOf ⟨K, mg, P, w⟩ ps.length g) := by
  refine F.okX Sc (fun vs H Q E h => ?_) fun cdv A outer s H vs Q E hr h => ?_
  · obtain ⟨w, us, _, _, rs, l, _⟩ := h
    rw [← rs.length, l]
  · obtain ⟨w, us, e, sr, rs, l, q⟩ := h
    subst e
    obtain ⟨t, p, hb⟩ := (hbody cdv A outer s w.H E hr).out
    refine ⟨t, p, hb w (enStart N.length us) (start N vs) _ sr (ER.start rs) ?_⟩
    rw [hg us w.S l] at q
    unfold runB at q
    cases hh : body (enStart N.length us) w.S with
    | ok fl S1 =>
      rw [hh] at q
      intro w1 eS st s1
      cases fl with
      | nx d => exact fun σ' _ => q w1 .non eS st s1 .non
      | rt u => exact fun v r => q w1 v eS st s1 r
      | bk d => exact q.elim
      | ct d => exact q.elim
      | ex x d => exact fun σ' _ cls dd xr => q w1 cls dd eS st s1 xr
    | bad => rw [hh] at q; exact q.elim
    | exc y S => rw [hh] at q; exact q.elim
section
variable {X : Cx} {Wx : WX}
abbrev PasX (X : Cx) (Wx : WX) : Prop := ∀ σ, PassesAt (L2.CX X.prog X.w) X σ (fun c d H => Wx c d σ H)
theorem pas_of (tk : Takes X Wx) : PasX X Wx := fun σ => passAt tk σ
theorem pas_none : PasX X (fun _ _ _ _ => False) := fun σ => passAt takes0 σ
theorem call_core {n k : Nat} {f : Addr} {fd : FuncData} {ps : List Str} {g : List U → Sto → R U} {fa : FA} {ta : TA}
    (ha : ∀ (w : Wd) (d : En) (σ : L2.St) (Q : List V → Hp → Prop), SR (KMof X) w → ER (KMof X) w d σ → Pst (fa d w.S) (OkA X w Q) (XPost X Wx σ w) → ta σ w.H Q)
    (w : Wd) (d : En) (σ : L2.St) (Q : VK) (s : SR (KMof X) w) (e : ER (KMof X) w d σ) (h : Pst (fA (fun us S => guard (us.length == n) (g us S)) fa d w.S) (OkE X w Q) (XPost X Wx σ w)) :
    tCallSD (spOf (KMof X) n g) [] (fun σ c d H => Wx c d σ H) ta σ w.H Q := by
  refine ha w d σ _ s e ((Pst.of_bind h).mono (fun us S1 h1 w1 vs eS st s1 rs => ?_) fun _ _ q => q)
  subst eS
  obtain ⟨hl, h1⟩ := guard_post h1
  rw [List.append_nil]
  exact ⟨w1, us, rfl, s1, rs, eq_of_beq hl, h1.mono (fun u S2 q w2 v e2 st2 s2 r2 => q w2 v e2 (st.trans st2) s2 r2) fun x S2 q w2 cls dd e2 st2 s2 xr => q w2 cls dd e2 (st.trans st2) s2 xr⟩
def fCall (n : Nat) (g : List U → Sto → R U) (fa : FA) : FE := fA (fun us S => guard (us.length == n) (g us S)) fa
theorem se_call {k : Nat} {f : Addr} {fd : FuncData} {ps : List Str} {n : Nat} {g : List U → Sto → R U} {x : Str} {p pos : Pos} {e : Expr} {es : List Expr} {fa : FA}
    (F : FnOk X.prog X.w X.K X.mg X.base (L2.CX X.prog X.w) k f fd ps (spOf (KMof X) n g)) (hr : Room k X.A) (hx : PasX X Wx) (hg : Gl X x) (hm : X.mg x = some (.ref f)) (hk : PySem.W.keepIn X.K (.ref f) = true) (hb : Binds X.K fd ps []) (ha : SimA X Wx (e :: es) fa)
    (hdb : (x == ("__debug__" : Str)) = false := by decide) (he : starEach (e :: es) X.env = (false, eval e X.env) :: starEach es X.env := by rfl) (hpl : (backTo pos (starEach es X.env)).any (·.1) = false := by rfl) :
    SimE X Wx (.Call (.Name x p) (e :: es) [] pos) (fCall n g fa) := by
  obtain ⟨ta, pa, ha⟩ := ha.out
  exact SimE.mk (pe_callSD F hr hg hm hk hb .nil hx pa hdb he hpl) (fun w d σ Q s e h => call_core (k := k) (f := f) (fd := fd) (ps := ps) ha w d σ Q s e h)
def toS {α : Type} (d : En) (r : R α) (k : α → Sto → R Fl) : R Fl := match r with
  | .ok a S => k a S
  | .exc x S => .ok (.ex x d) S
  | .bad => .bad
theorem toS_post {α : Type} {w : Wd} {d : En} {σ : L2.St} {D : Ends} {r : R α} {k : α → Sto → R Fl} (s : SR (KMof X) w) (e : ER (KMof X) w d σ) (h : Pst (toS d r k) (OkS X Wx w D) (fun _ _ => False)) :
    Pst r (fun a S => Pst (k a S) (OkS X Wx w D) (fun _ _ => False)) (XPost X Wx σ w) := by
  cases r with
  | ok a S => exact h
  | exc x S => exact fun w' cls dd eS st s' xr => h w' eS st s' σ (e.ext st.x s) cls dd xr
  | bad => exact h
variable {e : Expr} {st : Stmt} {rest : List Stmt} {pos : Pos}
def fNop : FS := fun d S => .ok (.nx d) S
def fExpr (f : FE) : FS := fun d S => toS d (f d S) fun _ S1 => .ok (.nx d) S1
def fRet (f : FE) : FS := fun d S => toS d (f d S) fun u S1 => .ok (.rt u) S1
def fRetN : FS := fun _ S => .ok (.rt .non) S
def fBrk : FS := fun d S => .ok (.bk d) S
def fCt : FS := fun d S => .ok (.ct d) S
theorem ss_expr {f : FE} (he : SimE X Wx e f) (hs : swapsWith e none pos.line X.env = pure false := by rfl) : SimS X Wx (.Expr e pos) (fExpr f) := by
  obtain ⟨t, p, he⟩ := he.out
  refine SimS.mk (ps_expr p hs) (fun w d σ D s e h => ?_)
  exact he w d σ _ s e ((toS_post s e h).mono (fun u S1 h1 w1 v eS st s1 r => h1 w1 eS st s1 σ (e.ext st.x s)) fun _ _ q => q)
theorem ss_ret {f : FE} (he : SimE X Wx e f) : SimS X Wx (.Return (some e) pos) (fRet f) := by
  obtain ⟨t, p, he⟩ := he.out
  refine SimS.mk (ps_ret p) (fun w d σ D s e h => ?_)
  exact he w d σ _ s e ((toS_post s e h).mono (fun u S1 h1 w1 v eS st s1 r => h1 w1 eS st s1 v r) fun _ _ q => q)
def fSet (i : Nat) (f : FE) : FS := fun d S => toS d (f d S) fun u S1 => .ok (.nx (d.set i (some u))) S1
theorem ss_set (i : Nat) {x : Str} {f : FE} {pos' : Pos} (hN : X.N.Nodup) (hi : X.N[i]? = some x) (hx : Loc X.env.scope x) (he : SimE X Wx e f) (hs : swapsWith e (some (.Name x pos')) pos.line X.env = pure false := by rfl)
    (hf : X.fn x = true ∨ X.env.scope.names.lookup x = some .local := by first | exact .inl rfl | exact .inr rfl | assumption) : SimS X Wx (.Assign [.Name x pos'] e pos) (fSet i f) := by
  obtain ⟨t, p, he⟩ := he.out
  refine SimS.mk (ps_set hN hi hx p hs hf) (fun w d σ D s e h => ?_)
  exact he w d σ _ s e ((toS_post s e h).mono (fun u S1 h1 w1 v eS st s1 r => h1 w1 eS st s1 _ ((e.ext st.x s).set i r)) fun _ _ q => q)
def Keeps (is : List Nat) (σ σ' : L2.St) : Prop := ∀ vs : List Nat, (∀ i ∈ is, i ∈ vs) → wipe σ' vs = wipe σ vs
def tG (X : Cx) (is : List Nat) (g : U → En → Option En) : TG := fun v σ H Q => ∃ (w : Wd) (u : U) (d d' : En), w.H = H ∧ SR (KMof X) w ∧ ER (KMof X) w d σ ∧ VR (KMof X) w u v ∧ g u d = some d' ∧ ∀ σ', ER (KMof X) w d' σ' → Keeps is σ σ' → Q σ' w.H
def tGs (X : Cx) (is : List Nat) (g : List U → En → Option En) : TGs := fun vs σ H Q => ∃ (w : Wd) (us : List U) (d d' : En), w.H = H ∧ SR (KMof X) w ∧ ER (KMof X) w d σ ∧ VRs (KMof X) w us vs ∧ g us d = some d' ∧ ∀ σ', ER (KMof X) w d' σ' → Keeps is σ σ' → Q σ' w.H
def SimG (X : Cx) (tg : Expr) (is : List Nat) (g : U → En → Option En) : Prop := PG X tg (tG X is g)
def SimGs (X : Cx) (tgs : List Expr) (is : List Nat) (g : List U → En → Option En) : Prop := PGs X tgs (tGs X is g)
theorem SimG.out {tg : Expr} {is : List Nat} {g : U → En → Option En} (h : SimG X tg is g) : ∃ t, PG X tg t ∧ ∀ (w : Wd) (u : U) (v : V) (d d' : En) (σ : L2.St) (Q : L2.St → Hp → Prop), SR (KMof X) w → ER (KMof X) w d σ → VR (KMof X) w u v → g u d = some d' → (∀ σ', ER (KMof X) w d' σ' → Keeps is σ σ' → Q σ' w.H) → t v σ w.H Q :=
  ⟨_, h, fun w u v d d' σ Q s e r h q => ⟨w, u, d, d', rfl, s, e, r, h, q⟩⟩
theorem SimG.mk {tg : Expr} {is : List Nat} {g : U → En → Option En} {t : TG} (p : PG X tg t) (h : ∀ (w : Wd) (u : U) (v : V) (d d' : En) (σ : L2.St) (Q : L2.St → Hp → Prop), SR (KMof X) w → ER (KMof X) w d σ → VR (KMof X) w u v → g u d = some d' → (∀ σ', ER (KMof X) w d' σ' → Keeps is σ σ' → Q σ' w.H) → t v σ w.H Q) : SimG X tg is g :=
  ⟨fun pins s σ H v u Q I r ⟨w, y, d, d', e, sr, er, vr, hg, q⟩ => p.run pins s σ H v u Q I r (by subst e; exact h w y v d d' σ Q sr er vr hg q)⟩
theorem SimGs.out {tgs : List Expr} {is : List Nat} {g : List U → En → Option En} (h : SimGs X tgs is g) : ∃ t, PGs X tgs t ∧ ∀ (w : Wd) (us : List U) (vs : List V) (d d' : En) (σ : L2.St) (Q : L2.St → Hp → Prop), SR (KMof X) w → ER (KMof X) w d σ → VRs (KMof X) w us vs → g us d = some d' → (∀ σ', ER (KMof X) w d' σ' → Keeps is σ σ' → Q σ' w.H) → t vs σ w.H Q :=
  ⟨_, h, fun w u v d d' σ Q s e r h q => ⟨w, u, d, d', rfl, s, e, r, h, q⟩⟩
theorem SimGs.mk {tgs : List Expr} {is : List Nat} {g : List U → En → Option En} {t : TGs} (p : PGs X tgs t) (h : ∀ (w : Wd) (us : List U) (vs : List V) (d d' : En) (σ : L2.St) (Q : L2.St → Hp → Prop), SR (KMof X) w → ER (KMof X) w d σ → VRs (KMof X) w us vs → g us d = some d' → (∀ σ', ER (KMof X) w d' σ' → Keeps is σ σ' → Q σ' w.H) → t vs σ w.H Q) : SimGs X tgs is g :=
  ⟨fun pins s σ H vs us Q I r ⟨w, y, d, d', e, sr, er, vr, hg, q⟩ => p.run pins s σ H vs us Q I r (by subst e; exact h w y vs d d' σ Q sr er vr hg q)⟩
theorem wipe_get (σ : L2.St) : ∀ (vs : List Nat) (j : Nat), (wipe σ vs)[j]? = if j ∈ vs then (if j < σ.length then some none else none) else σ[j]?
  | [], j => by simp [wipe]
  | v :: vs, j => by
    unfold wipe
    by_cases e : v = j
    · subst e
      by_cases hl : v < σ.length
      · rw [List.getElem?_set_self (by rw [wipe_length]; exact hl)]; simp [hl]
      · rw [List.getElem?_eq_none (by rw [List.length_set, wipe_length]; omega)]; simp [hl]
    · rw [List.getElem?_set_ne e, wipe_get σ vs j]
      have : (j ∈ v :: vs) ↔ j ∈ vs := by simp [Ne.symm e]
      simp only [this]
theorem keeps_set {σ : L2.St} (i : Nat) (o : Option V) : Keeps [i] σ (σ.set i o) := fun vs h => by
  refine List.ext_getElem? fun j => ?_
  rw [wipe_get, wipe_get, List.length_set]
  by_cases hj : j ∈ vs
  · rw [if_pos hj, if_pos hj]
  · rw [if_neg hj, if_neg hj, List.getElem?_set_ne fun e => hj (by rw [← e]; exact h i (by simp))]
theorem Keeps.refl (σ : L2.St) : Keeps [] σ σ := fun _ _ => rfl
theorem Keeps.trans {is js : List Nat} {σ σ1 σ2 : L2.St} (a : Keeps is σ σ1) (b : Keeps js σ1 σ2) : Keeps (is ++ js) σ σ2 := fun vs h =>
  (b vs fun i hi => h i (List.mem_append_right _ hi)).trans (a vs fun i hi => h i (List.mem_append_left _ hi))
def gN (i : Nat) (u : U) (d : En) : Option En := some (d.set i (some u))
def gNil (us : List U) (d : En) : Option En := match us with
  | [] => some d
  | _ => none
def gCons (g : U → En → Option En) (r : List U → En → Option En) (us : List U) (d : En) : Option En := match us with
  | u :: us => (g u d).bind (r us)
  | [] => none
def gTup (n : Nat) (r : List U → En → Option En) (u : U) (d : En) : Option En := match u with
  | .tup us => if us.length = n then r us d else none
  | _ => none
theorem sg_name (i : Nat) {x : Str} (hN : X.N.Nodup) (hi : X.N[i]? = some x) (hx : Loc X.env.scope x) (hf : X.fn x = true ∨ X.env.scope.names.lookup x = some .local := by first | exact .inl rfl | exact .inr rfl | assumption) : SimG X (.Name x pos) [i] (gN i) :=
  SimG.mk (pg_name hN hi hx hf) fun w u v d d' σ Q s e r h q => by cases h; exact q _ (e.set i r) (keeps_set i _)
theorem sg_nil : SimGs X [] [] gNil := SimGs.mk pgs_nil fun w us vs d d' σ Q s e r h q => by
  cases r with
  | nil => cases h; exact ⟨rfl, q σ e (Keeps.refl σ)⟩
  | cons _ _ => cases h
theorem sg_cons {es : List Expr} {is js : List Nat} {g : U → En → Option En} {r : List U → En → Option En} (h1 : SimG X e is g) (h2 : SimGs X es js r) (hs : (assignEach (e :: es) X.env).map (·.2) = assign e X.env :: (assignEach es X.env).map (·.2) := by rfl) : SimGs X (e :: es) (is ++ js) (gCons g r) := by
  obtain ⟨t, p, h1⟩ := h1.out
  obtain ⟨u, q, h2⟩ := h2.out
  refine SimGs.mk (pgs_cons p q hs) fun w us vs d d' σ Q s e rs h k => ?_
  cases rs with
  | nil => cases h
  | @cons y ys v vs ry rys =>
    unfold gCons at h
    dsimp only at h
    cases h3 : g y d with
    | none => rw [h3] at h; cases h
    | some d1 =>
      rw [h3] at h
      exact ⟨v, vs, rfl, h1 w y v d d1 σ _ s e ry h3 fun σ1 e1 k1 => h2 w ys vs d1 d' σ1 Q s e1 rys h fun σ2 e2 k2 => k σ2 e2 (k1.trans k2)⟩
theorem sg_tup {es : List Expr} {k : Nat} {n : Nat} {is : List Nat} {r : List U → En → Option En} (hc : X.calm = true) (h : SimGs X es is r)
    (hn : (assignEach es X.env).length = n := by rfl) (hst : (assignEach es X.env).findIdx? (·.1) = none := by rfl) : SimG X (.Tuple es k pos) is (gTup n r) := by
  obtain ⟨t, p, h⟩ := h.out
  refine SimG.mk (pg_tup hc p hn hst) fun w u v d d' σ Q s e rv hg q => ?_
  unfold gTup at hg
  split at hg
  · split at hg
    · rename_i us hl
      cases rv with
      | tup hq rs => exact ⟨_, _, rfl, hq.sq, by rw [← rs.length]; exact hl, h w us _ d d' σ Q s e rs hg q⟩
    · cases hg
  · cases hg
def fAsg (g : U → En → Option En) (f : FE) : FS := fun d S => toS d (f d S) fun u S1 => match g u d with
  | some d' => .ok (.nx d') S1
  | none => .bad
theorem ss_asg {tg : Expr} {f : FE} {is : List Nat} {g : U → En → Option En} (he : SimE X Wx e f) (hg : SimG X tg is g) (hs : swapsWithSole [tg] e pos.line X.env = pure false := by rfl) (hw : swappedStores [tg] e X.env = pure none := by rfl)
    (h1 : (assignEach [tg] X.env).map (·.2) = [assign tg X.env] := by rfl) : SimS X Wx (.Assign [tg] e pos) (fAsg g f) := by
  obtain ⟨t, p, he⟩ := he.out
  obtain ⟨u, q, hg⟩ := hg.out
  refine SimS.mk (ps_asg p q hs hw h1) (fun w d σ D s e h => ?_)
  refine he w d σ _ s e ((toS_post s e h).mono (fun y S1 k1 w1 v eS st s1 r => ?_) fun _ _ q => q)
  split at k1
  · rename_i d' hd
    exact hg w1 y v d d' σ D.nx s1 (e.ext st.x s) r hd fun σ' e' _ => k1 w1 eS st s1 σ' e'
  · exact k1.elim
def fSeq (f g : FS) : FS := fun d S => match f d S with
  | .ok (.nx d1) S1 => g d1 S1
  | r => r
theorem sb_nil : SimB X Wx [] fNop := SimB.mk pss_nil (fun w d σ D s e h => h w rfl (Stp.refl w) s σ e)
theorem sb_one {f : FS} (h : SimS X Wx st f) : SimB X Wx [st] f := by
  obtain ⟨t, p, h⟩ := h.out
  exact SimB.mk (pss_one p) h
theorem sb_cons {f g : FS} (h1 : SimS X Wx st f) (h2 : SimB X Wx rest g) : SimB X Wx (st :: rest) (fSeq f g) := by
  obtain ⟨t, p, h1⟩ := h1.out
  obtain ⟨u, q, h2⟩ := h2.out
  refine SimB.mk (pss_cons p q) (fun w d σ D s e h => h1 w d σ _ s e ?_)
  unfold fSeq at h
  cases hf : f d w.S with
  | ok fl S1 =>
    rw [hf] at h
    cases fl with
    | nx d1 =>
      intro w1 eS st s1 σ1 e1
      subst eS
      exact h2 w1 d1 σ1 D s1 e1 (Pst.mono h (fun _ _ q => q.up st) fun _ _ q => q)
    | rt u => exact h
    | bk d1 => exact h
    | ct d1 => exact h
    | ex x d1 => exact h
  | exc x S => rw [hf] at h; exact h
  | bad => rw [hf] at h; exact h
def fIfS (c : FT) (f g : FS) : FS := fun d S => toS d (c d S) fun b S1 => if b then f d S1 else g d S1
theorem ss_if {c : Expr} {a b : List Stmt} {fc : FT} {f g : FS} (hc : SimT X Wx c fc) (ha : SimB X Wx a f) (hb : SimB X Wx b g) : SimS X Wx (.If c a b pos) (fIfS fc f g) := by
  obtain ⟨tc, pc, hc⟩ := hc.out
  obtain ⟨ta, pa, ha⟩ := ha.out
  obtain ⟨tb, pb, hb⟩ := hb.out
  refine SimS.mk (ps_if pc pa pb) (fun w d σ D s e h => ?_)
  refine hc w d σ _ s e ((toS_post s e h).mono (fun k S1 h1 w1 eS st s1 => ?_) fun _ _ q => q)
  subst eS
  cases k with
  | true => exact ha w1 d σ D s1 (e.ext st.x s) (Pst.mono h1 (fun _ _ q => q.up st) fun _ _ q => q)
  | false => exact hb w1 d σ D s1 (e.ext st.x s) (Pst.mono h1 (fun _ _ q => q.up st) fun _ _ q => q)
def ItSim (K : KM) (w : Wd) (J : It) (us : List U) : Prop := ∀ (w' : Wd) (i : Nat), Ext w w' → SR K w' →
  (∀ u, us[i]? = some u → J.go i w'.H ∧ ∀ x H', J.yld i w'.H x H' → ∃ w'' : Wd, w''.H = H' ∧ w''.S = w'.S ∧ Stp w' w'' ∧ SR K w'' ∧ VR K w'' u x) ∧ (us.length ≤ i → J.stop i w'.H)
def OkI (X : Cx) (w : Wd) (Q : It → Hp → Prop) (us : List U) (S' : Sto) : Prop := ∀ (w' : Wd) (J : It), w'.S = S' → Stp w w' → SR (KMof X) w' → ItSim (KMof X) w' J us → Q J w'.H
def SimI (X : Cx) (Wx : WX) (tg iter : Expr) (f : FA) : Prop := ∃ t, PI X tg iter t ∧ ∀ (w : Wd) (d : En) (σ : L2.St) (Q : It → Hp → Prop), SR (KMof X) w → ER (KMof X) w d σ → Pst (f d w.S) (OkI X w Q) (XPost X Wx σ w) → t σ w.H Q
theorem ItSim.same {K : KM} {w : Wd} {J : It} {us : List U} (h : ∀ (w' : Wd) (i : Nat), Ext w w' → SR K w' → (∀ u, us[i]? = some u → J.go i w'.H ∧ ∀ x H', J.yld i w'.H x H' → H' = w'.H ∧ VR K w' u x) ∧ (us.length ≤ i → J.stop i w'.H)) : ItSim K w J us := fun w' i x s => by
  obtain ⟨h1, h2⟩ := h w' i x s
  refine ⟨fun u hu => ?_, h2⟩
  obtain ⟨h3, h4⟩ := h1 u hu
  refine ⟨h3, fun y H' q => ?_⟩
  obtain ⟨e, r⟩ := h4 y H' q
  exact ⟨w', e.symm, rfl, Stp.refl w', s, r⟩
variable {tg iter : Expr}
def aOver (p : U → Option (List U)) (f : FE) : FA := fun d S => (f d S).bind fun u S1 => match p u with
  | some us => .ok us S1
  | none => .bad
def lstV : U → Option (List U)
  | .lst us => some us
  | .frz us => some us
  | _ => none
def tupV : U → Option (List U)
  | .tup us => some us
  | _ => none
def strV : U → Option (List U)
  | .str z => some (z.cps.toList.map fun c => .str ⟨#[c]⟩)
  | _ => none
theorem lstV_ok {K : KM} {w : Wd} {u : U} {v : V} {us : List U} (r : VR K w u v) (h : lstV u = some us) : ∃ a, v = .ref a ∧ ∀ w', Ext w w' → SR K w → ∃ xs, SqL K w'.H a xs ∧ VRs K w' us xs := by
  cases r with
  | @lst a xs _ hq n rs => cases h; exact ⟨a, rfl, fun w' x s => ⟨xs, SqL.of (x.keep _ _ hq n), rs.ext x s⟩⟩
  | @frz a xs _ hq rs => cases h; exact ⟨a, rfl, fun w' x s => ⟨xs, (x.fz s hq).sq, rs.ext x s⟩⟩
  | _ => cases h
theorem si_list {f : FE} (h : SimE X Wx iter f) : SimI X Wx tg iter (aOver lstV f) := by
  obtain ⟨t, p, h⟩ := h.out
  refine ⟨_, pi_list p, fun w d σ Q s e h0 => ?_⟩
  refine h w d σ _ s e ((Pst.of_bind h0).mono (fun u S1 h1 w1 v eS st s1 r => ?_) fun _ _ q => q)
  split at h1
  · rename_i us hu
    obtain ⟨a, rfl, hk⟩ := lstV_ok r hu
    obtain ⟨xs, hq, rs⟩ := hk w1 (Ext.refl w1) s1
    refine ⟨a, rfl, ⟨xs, hq⟩, h1 w1 _ eS st s1 (ItSim.same fun w' i x s' => ?_)⟩
    obtain ⟨ys, hq', rs'⟩ := hk w' x s1
    refine ⟨fun u hi => ?_, fun hi => ⟨ys, hq', by rw [← rs'.length]; exact hi⟩⟩
    obtain ⟨y, hy, ry⟩ := rs'.get hi
    refine ⟨⟨ys, y, hq', hy⟩, fun z H' q => ⟨q.1, ?_⟩⟩
    have e2 := q.2 ys hq'
    rw [hy] at e2
    cases e2
    exact ry
  · exact h1.elim
theorem si_tup {f : FE} (h : SimE X Wx iter f) : SimI X Wx tg iter (aOver tupV f) := by
  obtain ⟨t, p, h⟩ := h.out
  refine ⟨_, pi_tup p, fun w d σ Q s e h0 => ?_⟩
  refine h w d σ _ s e ((Pst.of_bind h0).mono (fun u S1 h1 w1 v eS st s1 r => ?_) fun _ _ q => q)
  cases r with
  | @tup a xs us hq rs =>
    refine ⟨a, rfl, ⟨xs, hq.sq⟩, h1 w1 _ eS st s1 (ItSim.same fun w' i x s' => ?_)⟩
    have hq' := (x.sqT s1 hq).sq
    have rs' := rs.ext x s1
    refine ⟨fun u hi => ?_, fun hi => ⟨xs, hq', by rw [← rs'.length]; exact hi⟩⟩
    obtain ⟨y, hy, ry⟩ := rs'.get hi
    refine ⟨⟨xs, y, hq', hy⟩, fun z H' q => ⟨q.1, ?_⟩⟩
    have e2 := q.2 xs hq'
    rw [hy] at e2
    cases e2
    exact ry
  | _ => exact h1.elim
theorem si_str {f : FE} (h : SimE X Wx iter f) : SimI X Wx tg iter (aOver strV f) := by
  obtain ⟨t, p, h⟩ := h.out
  refine ⟨_, pi_str p, fun w d σ Q s e h0 => ?_⟩
  refine h w d σ _ s e ((Pst.of_bind h0).mono (fun u S1 h1 w1 v eS st s1 r => ?_) fun _ _ q => q)
  cases r with
  | str z =>
    refine ⟨z, rfl, h1 w1 _ eS st s1 (ItSim.same fun w' i x s' => ?_)⟩
    refine ⟨fun u hi => ?_, fun hi => ?_⟩
    · rw [List.getElem?_map] at hi
      cases hc : z.cps.toList[i]? with
      | none => rw [hc] at hi; cases hi
      | some c =>
        rw [hc] at hi
        cases hi
        have hlt : i < z.cps.size := by
          have := (List.getElem?_eq_some_iff.mp hc).1
          simpa using this
        refine ⟨hlt, fun y H' q => ?_⟩
        obtain ⟨e1, c', e2, e3⟩ := q
        refine ⟨e1, ?_⟩
        have e4 : z.cps[i]? = some c := by rw [← Array.getElem?_toList]; exact hc
        rw [e4] at e2
        cases e2
        rw [e3]
        exact .str _
    · show z.cps.size ≤ i
      simpa using hi
  | _ => exact h1.elim
def rngU (lo c : Int) (n : Nat) : List U := (List.range n).map fun (i : Nat) => U.int (lo + (i : Int) * c)
def aRng1 (fa : FA) : FA := fun d S => (fa d S).bind fun us S1 => match us with
  | [.int j] => guard (decide (-(2 ^ 62) ≤ j) && decide (j < 2 ^ 62)) (.ok (rngU 0 1 j.toNat) S1)
  | _ => .bad
theorem rng_get {lo c : Int} {n i : Nat} {u : U} (h : (rngU lo c n)[i]? = some u) : i < n ∧ u = .int (lo + (i : Int) * c) := by
  unfold rngU at h
  rw [List.getElem?_map] at h
  cases hr : (List.range n)[i]? with
  | none => rw [hr] at h; cases h
  | some k =>
    rw [hr] at h
    cases h
    obtain ⟨h1, h2⟩ := List.getElem?_eq_some_iff.mp hr
    rw [List.getElem_range] at h2
    subst h2
    exact ⟨by simpa using h1, rfl⟩
theorem it_range {K : KM} {w : Wd} (lo : Int) (n : Nat) : ItSim K w (Itr lo n) (rngU lo 1 n) := ItSim.same fun w' i x s => by
  refine ⟨fun u hu => ?_, fun h => (show n ≤ i by simpa [rngU] using h)⟩
  obtain ⟨h1, rfl⟩ := rng_get hu
  refine ⟨h1, fun y H' q => ⟨q.1, ?_⟩⟩
  rw [q.2, Int.mul_one]
  exact .int _
theorem si_range1 {a : Expr} {fa : FA} {p pos : Pos} (hg : Gl X "range") (hm : X.mg "range" = none) (ha : SimA X Wx [a] fa) (hs : starEach [a] X.env = [(false, eval a X.env)] := by rfl) : SimI X Wx tg (.Call (.Name "range" p) [a] [] pos) (aRng1 fa) := by
  obtain ⟨t, p, ha⟩ := ha.out
  refine ⟨_, pi_range1 hg hm p hs, fun w d σ Q s e h0 => ?_⟩
  refine ha w d σ _ s e ((Pst.of_bind h0).mono (fun us S1 h1 w1 vs eS st s1 rs => ?_) fun _ _ q => q)
  split at h1
  · obtain ⟨hl, h1⟩ := guard_post h1
    rw [Bool.and_eq_true] at hl
    cases rs with
    | cons r rs =>
      cases rs; cases r
      exact ⟨_, rfl, of_decide_eq_true hl.1, of_decide_eq_true hl.2, h1 w1 _ eS st s1 (it_range 0 _)⟩
  · exact h1.elim
end
end DL
namespace DL
open PySem PySem.Spec L2
section
variable {X : Cx} {Wx : WX} {pos : Pos} {tg iter elt c : Expr} {body : List Stmt}
def loopF (g : U → En → Option En) (f : FS) : List U → FS
  | [], d, S => .ok (.nx d) S
  | u :: us, d, S => match g u d with
    | none => .bad
    | some d1 => match f d1 S with
      | .ok (.nx d2) S1 => loopF g f us d2 S1
      | .ok (.ct d2) S1 => loopF g f us d2 S1
      | .ok (.bk d2) S1 => .ok (.nx d2) S1
      | r => r
def fFor (fi : FA) (g : U → En → Option En) (f : FS) : FS := fun d S => toS d (fi d S) fun us S1 => loopF g f us d S1
theorem drop_at {us : List U} {i : Nat} (h : i < us.length) : us.drop i = us[i] :: us.drop (i + 1) := List.drop_eq_getElem_cons h
theorem ss_for {fi : FA} {is : List Nat} {g : U → En → Option En} {f : FS} (hp : PassesOwn (model X.prog X.w) X.A X.env X.xe) (hc : X.calm = true) (hi : SimI X Wx tg iter fi) (hg : SimG X tg is g) (hb : SimB X Wx body f)
    (hs : ∀ x, foldedSetIterable iter X.env x = pure x := by intro _; rfl) : SimS X Wx (.For tg iter body [] pos) (fFor fi g f) := by
  obtain ⟨ti, pi, hi⟩ := hi
  obtain ⟨tg', pg, hg⟩ := hg.out
  obtain ⟨tb, pb, hb⟩ := hb.out
  refine SimS.mk (ps_for hp hc pi pg pb hs) (fun w d σ D s e h => ?_)
  refine hi w d σ _ s e ((toS_post s e h).mono (fun us S1 h1 w1 J eS st s1 it => ?_) fun _ _ q => q)
  subst eS
  refine ⟨fun i m σ' H => ∃ (w' : Wd) (d' : En), w'.H = H ∧ Stp w1 w' ∧ SR (KMof X) w' ∧ ER (KMof X) w' d' σ' ∧ m = us.length - i ∧ i ≤ us.length ∧ Pst (loopF g f (us.drop i) d' w'.S) (OkS X Wx w D) (fun _ _ => False),
    ⟨us.length, w1, d, rfl, Stp.refl w1, s1, e.ext st.x s, by simp, Nat.zero_le _, h1⟩, ?_⟩
  rintro i m σ' H ⟨w', d', rfl, st', s', e', rfl, hil, q⟩
  obtain ⟨it1, it2⟩ := it w' i st'.x s'
  by_cases hlt : i < us.length
  · rw [drop_at hlt] at q
    obtain ⟨go, yl⟩ := it1 us[i] (List.getElem?_eq_getElem hlt)
    refine .inr ⟨go, fun σ2 H2 => ∃ (w2 : Wd) (d2 : En), w2.H = H2 ∧ Stp w1 w2 ∧ SR (KMof X) w2 ∧ ER (KMof X) w2 d2 σ2 ∧ Pst (loopF g f (us.drop (i + 1)) d2 w2.S) (OkS X Wx w D) (fun _ _ => False), fun σ2 H2 ⟨w2, d2, e1, e2, e3, e4, e5⟩ => ⟨us.length - (i + 1), by omega, w2, d2, e1, e2, e3, e4, rfl, hlt, e5⟩, fun x H' y => ?_⟩
    obtain ⟨w2, rfl, eS2, st2, s2, rx⟩ := yl x H' y
    rw [← eS2] at q
    unfold loopF at q
    split at q
    · exact q.elim
    · rename_i d1 hd1
      refine hg w2 us[i] x d' d1 σ' _ s2 (e'.ext st2.x s') rx hd1 fun σ1 e1 _ => ?_
      refine hb w2 d1 σ1 _ s2 e1 ?_
      have st02 := st.trans (st'.trans st2)
      split at q
      · rename_i d2 S2 hf
        rw [hf]
        exact fun w3 eS3 st3 s3 σ3 e3 => ⟨w3, d2, rfl, (st'.trans st2).trans st3, s3, e3, by rw [eS3]; exact q⟩
      · rename_i d2 S2 hf
        rw [hf]
        exact fun w3 eS3 st3 s3 σ3 e3 => ⟨w3, d2, rfl, (st'.trans st2).trans st3, s3, e3, by rw [eS3]; exact q⟩
      · rename_i d2 S2 hf
        rw [hf]
        exact fun w3 eS3 st3 s3 σ3 e3 => q w3 eS3 (st02.trans st3) s3 σ3 e3
      · rename_i hn1 hn2 hn3
        cases hf : f d1 w2.S with
        | ok fl S2 =>
          rw [hf] at q
          cases fl with
          | nx d2 => exact absurd hf (hn1 d2 S2)
          | ct d2 => exact absurd hf (hn2 d2 S2)
          | bk d2 => exact absurd hf (hn3 d2 S2)
          | rt u => exact fun w3 eS3 st3 s3 v r => q w3 eS3 (st02.trans st3) s3 v r
          | ex x d2 => exact fun w3 eS3 st3 s3 σ3 e3 cls dd xr => q w3 eS3 (st02.trans st3) s3 σ3 e3 cls dd xr
        | exc x S => rw [hf] at q; exact q
        | bad => rw [hf] at q; exact q
  · have e0 : i = us.length := by omega
    subst e0
    rw [List.drop_length] at q
    exact .inl ⟨it2 (Nat.le_refl _), q w' rfl (st.trans st') s' σ' e'⟩
def whileF (fc : FT) (f : FS) : Nat → FS
  | 0, _, _ => .bad
  | n + 1, d, S => toS d (fc d S) fun b S1 => if b then
      match f d S1 with
      | .ok (.nx d2) S2 => whileF fc f n d2 S2
      | .ok (.ct d2) S2 => whileF fc f n d2 S2
      | .ok (.bk d2) S2 => .ok (.nx d2) S2
      | r => r
    else .ok (.nx d) S1
theorem ss_while (n : Nat) {fc : FT} {f : FS} (hp : PassesOwn (model X.prog X.w) X.A X.env X.xe) (hc : SimT X Wx c fc) (hb : SimB X Wx body f) : SimS X Wx (.While c body [] pos) (whileF fc f n) := by
  obtain ⟨tc, pc, hc⟩ := hc.out
  obtain ⟨tb, pb, hb⟩ := hb.out
  refine SimS.mk (ps_while hp pc pb) (fun w d σ D s e h => ?_)
  refine ⟨fun m σ' H => ∃ (w' : Wd) (d' : En), w'.H = H ∧ SR (KMof X) w' ∧ ER (KMof X) w' d' σ' ∧ Pst (whileF fc f m d' w'.S) (OkS X Wx w' D) (fun _ _ => False), ⟨n, w, d, rfl, s, e, h⟩, ?_⟩
  rintro m σ' H ⟨w', d', rfl, s', e', q⟩
  cases m with
  | zero => exact q.elim
  | succ m =>
    unfold whileF at q
    refine hc w' d' σ' _ s' e' ((toS_post s' e' q).mono (fun b S1 h1 w1 eS st1 s1 => ?_) fun _ _ z => z)
    subst eS
    cases b with
    | false => exact h1 w1 rfl st1 s1 σ' (e'.ext st1.x s')
    | true =>
      refine ⟨fun σ2 H2 => ∃ (w2 : Wd) (d2 : En), w2.H = H2 ∧ SR (KMof X) w2 ∧ ER (KMof X) w2 d2 σ2 ∧ Pst (whileF fc f m d2 w2.S) (OkS X Wx w2 D) (fun _ _ => False), fun σ2 H2 z => ⟨m, Nat.lt_succ_self m, z⟩, ?_⟩
      refine hb w1 d' σ' _ s1 (e'.ext st1.x s') ?_
      have h1 : Pst (match f d' w1.S with
          | .ok (.nx d2) S2 => whileF fc f m d2 S2
          | .ok (.ct d2) S2 => whileF fc f m d2 S2
          | .ok (.bk d2) S2 => .ok (.nx d2) S2
          | r => r) (OkS X Wx w' D) (fun _ _ => False) := h1
      split at h1
      · rename_i d2 S2 hf
        rw [hf]
        exact fun w3 eS3 st3 s3 σ3 e3 => ⟨w3, d2, rfl, s3, e3, by rw [eS3]; exact Pst.mono h1 (fun _ _ z => z.up (st1.trans st3)) fun _ _ z => z⟩
      · rename_i d2 S2 hf
        rw [hf]
        exact fun w3 eS3 st3 s3 σ3 e3 => ⟨w3, d2, rfl, s3, e3, by rw [eS3]; exact Pst.mono h1 (fun _ _ z => z.up (st1.trans st3)) fun _ _ z => z⟩
      · rename_i d2 S2 hf
        rw [hf]
        exact fun w3 eS3 st3 s3 σ3 e3 => h1 w3 eS3 (st1.trans st3) s3 σ3 e3
      · rename_i hn1 hn2 hn3
        cases hf : f d' w1.S with
        | ok fl S2 =>
          rw [hf] at h1
          cases fl with
          | nx d2 => exact absurd hf (hn1 d2 S2)
          | ct d2 => exact absurd hf (hn2 d2 S2)
          | bk d2 => exact absurd hf (hn3 d2 S2)
          | rt u => exact fun w3 eS3 st3 s3 v r => h1 w3 eS3 (st1.trans st3) s3 v r
          | ex x d2 => exact fun w3 eS3 st3 s3 σ3 e3 cls dd xr => h1 w3 eS3 (st1.trans st3) s3 σ3 e3 cls dd xr
        | exc x S => rw [hf] at h1; exact h1
        | bad => rw [hf] at h1; exact h1
abbrev W0 : WX := fun _ _ _ _ => False
def SimTs (X : Cx) (Wx : WX) (ifs : List Expr) (f : FT) : Prop := PTs X ifs (tT X Wx f)
def fYes : FT := fun _ S => .ok true S
theorem ts_nil : SimTs X Wx [] fYes := ⟨fun pins s σ H Q I ⟨w, d, e, sr, er, q⟩ => pts_nil.run pins s σ H Q I (by subst e; exact q w rfl (Stp.refl w) sr)⟩
theorem ts_one {f : FT} (h : SimT X Wx c f) : SimTs X Wx [c] f := pts_one h
def wipeE (d : En) : List Nat → En
  | [] => d
  | v :: vs => (wipeE d vs).set v none
theorem ER.wipe {K : KM} {w : Wd} {d : En} {σ : L2.St} (e : ER K w d σ) : ∀ vs : List Nat, ER K w (wipeE d vs) (L2.wipe σ vs)
  | [] => e
  | v :: vs => (ER.wipe e vs).forget v none
def compF (g : U → En → Option En) (ft : FT) (fe : FE) (d : En) : List U → List U → Sto → R (List U)
  | [], acc, S => .ok acc S
  | u :: us, acc, S => match g u d with
    | none => .bad
    | some d1 => match ft d1 S with
      | .ok true S1 => match fe d1 S1 with
        | .ok y S2 => guard (decide (acc.length < sizeLine)) (compF g ft fe d us (acc ++ [y]) S2)
        | _ => .bad
      | .ok false S1 => compF g ft fe d us acc S1
      | _ => .bad
def aComp (fi : FA) (g : U → En → Option En) (ft : FT) (fe : FE) (vs : List Nat) : FA := fun d S => (fi d S).bind fun us S1 => compF g ft fe (wipeE d vs) us [] S1
theorem comp_core {wi : TI} {fi : FA} {is vs : List Nat} {g : U → En → Option En} {ft : FT} {fe : FE}
    (hi : ∀ (w : Wd) (d : En) (σ : L2.St) (Q : It → Hp → Prop), SR (KMof X) w → ER (KMof X) w d σ → Pst (fi d w.S) (OkI X w Q) (XPost X Wx σ w) → wi σ w.H Q) (hv : ∀ i ∈ is, i ∈ vs)
    (w : Wd) (d : En) (σ : L2.St) (Q : VK) (s : SR (KMof X) w) (e : ER (KMof X) w d σ) (h : Pst (aComp fi g ft fe vs d w.S) (OkL X w Q) (XPost X Wx σ w)) : tLc wi (tG X is g) (tT X W0 ft) (tE X W0 fe) vs σ w.H Q := by
  refine hi w d σ _ s e ((Pst.of_bind h).mono (fun us S1 h1 w1 J eS st s1 it => ?_) fun _ _ q => q)
  subst eS
  intro D hD
  have nD : D ∉ w1.r := fun z => s1.tracked (.inl z) hD
  have noE : ∀ (us acc : List U) (S : Sto), Pst (compF g ft fe (wipeE d vs) us acc S) (OkL X w Q) (XPost X Wx σ w) → Pst (compF g ft fe (wipeE d vs) us acc S) (OkL X w Q) (fun _ _ => False) := fun us => by
    induction us with
    | nil => intro acc S h; exact h
    | cons u us ih =>
      intro acc S h
      unfold compF at h ⊢
      split at h
      · exact h.elim
      · split at h
        · split at h
          · obtain ⟨hl, h⟩ := guard_post h
            rw [hl]
            exact ih _ _ h
          · exact h.elim
        · exact ih _ _ h
        · exact h.elim
  refine ⟨fun i m H => ∃ (w' : Wd) (acc : List U) (xs : List V), w'.H = H ∧ Ext w1 w' ∧ (∀ a ∈ w1.r, w'.H a = w1.H a) ∧ SR (KMof X) w' ∧ w'.r = D :: w1.r ∧ w'.H D = some (.lst xs) ∧ VRs (KMof X) w' acc xs ∧ m = us.length - i ∧ i ≤ us.length ∧
      Pst (compF g ft fe (wipeE d vs) (us.drop i) acc w'.S) (OkL X w Q) (fun _ _ => False),
    ⟨us.length, w1.hold D (.lst []), [], [], rfl, Ext.hold s1 hD, fun a ha => ?_, s1.hold hD (.inl ⟨_, rfl⟩), rfl, upd_same, .nil, by simp, Nat.zero_le _, noE us [] w1.S h1⟩, ?_⟩
  · show upd w1.H D _ a = w1.H a
    rw [upd_ne fun z => nD (by rw [← z]; exact ha)]
  rintro i m H ⟨w', acc, xs, rfl, x1, k1, s', er, eD, rs, rfl, hil, q⟩
  have hDr : D ∈ w'.r := by rw [er]; exact List.mem_cons_self
  obtain ⟨it1, it2⟩ := it w' i x1 s'
  by_cases hlt : i < us.length
  · rw [drop_at hlt] at q
    obtain ⟨go, yl⟩ := it1 us[i] (List.getElem?_eq_getElem hlt)
    refine .inr ⟨go, fun H2 => ∃ (w2 : Wd) (acc2 : List U) (xs2 : List V), w2.H = H2 ∧ Ext w1 w2 ∧ (∀ a ∈ w1.r, w2.H a = w1.H a) ∧ SR (KMof X) w2 ∧ w2.r = D :: w1.r ∧ w2.H D = some (.lst xs2) ∧ VRs (KMof X) w2 acc2 xs2 ∧ Pst (compF g ft fe (wipeE d vs) (us.drop (i + 1)) acc2 w2.S) (OkL X w Q) (fun _ _ => False),
      fun H2 ⟨w2, acc2, xs2, e1, e2, e3, e4, e5, e6, e7, e8⟩ => ⟨us.length - (i + 1), by omega, w2, acc2, xs2, e1, e2, e3, e4, e5, e6, e7, rfl, hlt, e8⟩, fun x H' y => ?_⟩
    obtain ⟨w2, rfl, eS2, st2, s2, rx⟩ := yl x H' y
    rw [← eS2] at q
    have sub : ∀ a ∈ w1.r, a ∈ w'.r := fun a ha => by rw [er]; exact List.mem_cons_of_mem _ ha
    -- later worlds
    have later : ∀ {w3 : Wd}, Stp w' w3 → SR (KMof X) w3 → Ext w1 w3 ∧ (∀ a ∈ w1.r, w3.H a = w1.H a) ∧ w3.r = D :: w1.r ∧ w3.H D = some (.lst xs) ∧ VRs (KMof X) w3 acc xs := fun {w3} st3 s3 =>
      ⟨x1.trans st3.x, fun a ha => (st3.k a (sub a ha)).trans (k1 a ha), st3.r.trans er, (st3.k D hDr).trans eD, rs.ext st3.x s'⟩
    unfold compF at q
    split at q
    · exact q.elim
    · rename_i d1 hd1
      have e2 : ER (KMof X) w2 (wipeE d vs) (L2.wipe σ vs) := (((e.ext st.x s).ext x1 s1).ext st2.x s').wipe vs
      refine ⟨w2, us[i], wipeE d vs, d1, rfl, s2, e2, rx, hd1, fun σ2 eσ kσ => ⟨?_, ?_⟩⟩
      · have hk := kσ vs hv
        have ww : ∀ σ : L2.St, L2.wipe (L2.wipe σ vs) vs = L2.wipe σ vs := fun σ => by
          refine List.ext_getElem? fun j => ?_
          rw [wipe_get, wipe_get, wipe_length]
          split <;> rfl
        rw [hk, ww]
      · refine ⟨w2, d1, rfl, s2, eσ, ?_⟩
        split at q
        · rename_i S3 ht
          rw [ht]
          intro w3 eS3 st3 s3
          rw [← eS3] at q
          split at q
          · rename_i y4 S4 hy
            refine ⟨w3, d1, rfl, s3, eσ.ext st3.x s2, ?_⟩
            rw [hy]
            intro w4 v4 eS4 st4 s4 r4
            rw [← eS4] at q
            obtain ⟨hl, q⟩ := guard_post q
            have st34 := (st2.trans st3).trans st4
            obtain ⟨l1, l2, l3, l4, l5⟩ := later st34 s4
            have hD4 : D ∈ w4.r := by rw [l3]; exact List.mem_cons_self
            refine ⟨xs, l4, by rw [← rs.length]; exact of_decide_eq_true hl, w4.grow D (xs ++ [v4]), acc ++ [y4], xs ++ [v4], rfl, l1.trans (Ext.grow hD4), fun a ha => ?_, s4.grow hD4, l3, upd_same, (l5.snoc r4).ext (Ext.grow hD4) s4, q⟩
            show upd w4.H D _ a = w1.H a
            rw [upd_ne fun z => nD (by rw [← z]; exact ha)]
            exact l2 a ha
          · exact q.elim
        · rename_i S3 ht
          rw [ht]
          intro w3 eS3 st3 s3
          rw [← eS3] at q
          obtain ⟨l1, l2, l3, l4, l5⟩ := later (st2.trans st3) s3
          exact ⟨w3, acc, xs, rfl, l1, l2, s3, l3, l4, l5, q⟩
        · exact q.elim
  · have e0 : i = us.length := by omega
    subst e0
    rw [List.drop_length] at q
    refine .inl ⟨it2 (Nat.le_refl _), ?_⟩
    have hq := q (w'.cut D) D xs rfl ⟨(st.x.trans (x1.cut hD)), ?_, fun a ha => ?_⟩ (s'.cut hDr) (rs.cut s' (.inl hDr)) cut_D
    · rw [cut_back eD] at hq
      exact hq
    · show w'.r.filter _ = w.r
      rw [er, let_go_r nD]
      exact st.r
    · have ha1 : a ∈ w1.r := by rw [st.r]; exact ha
      rw [cut_at fun z => nD (by rw [← z]; exact ha1), k1 a ha1]
      exact st.k a ha
section
variable {ifs : List Expr} {scope : Scope} {own : List (Str × Nat)} {fi : FA} {is vs : List Nat} {g : U → En → Option En} {ft : FT} {fe : FE}
theorem sl_comp (hc : X.calm = true) (hN : X.N.Nodup) (hi : SimI X Wx tg iter fi) (ok : BlkOk X.N X.env.scope scope own)
    (hg : ∀ (s : Shared) (H : Hp) (C : Addr) (cl : List (Str × Addr)) (fp : List Addr), SimG (X.blk s H scope (compEnvC scope cl C X.env) fp) tg is g)
    (ht : ∀ (s : Shared) (H : Hp) (C : Addr) (cl : List (Str × Addr)) (fp : List Addr), SimTs (X.blk s H scope (compEnvC scope cl C X.env) fp) W0 ifs ft)
    (he : ∀ (s : Shared) (H : Hp) (C : Addr) (cl : List (Str × Addr)) (fp : List Addr), SimE (X.blk s H scope (compEnvC scope cl C X.env) fp) W0 elt fe)
    (hvs : own.map (·.2) = vs := by rfl) (hv : ∀ i ∈ is, i ∈ vs := by decide) (hs : ∀ x, foldedSetIterable iter X.env x = pure x := by intro _; rfl) :
    SimL X Wx (.ListComp elt [⟨tg, iter, ifs, 0⟩] scope pos) (aComp fi g ft fe vs) := by
  subst hvs
  obtain ⟨ti, pi, hi⟩ := hi
  exact SimL.mk (pe_lc (g := tG X is g) (tt := tT X W0 ft) (te := tE X W0 fe) hc hN pi ok hg ht he hs) (fun w d σ Q s e h => comp_core hi hv w d σ Q s e h)
theorem ss_setComp (i : Nat) {y : Str} {py spos : Pos} (hc : X.calm = true) (hN : X.N.Nodup) (hy : X.N[i]? = some y) (hyl : X.env.scope.names.lookup y = some .local)
    (hsw : swapsWith (.ListComp elt [⟨tg, iter, ifs, 0⟩] scope pos) (some (.Name y py)) spos.line X.env = pure true) (hi : SimI X Wx tg iter fi) (ok : BlkOk X.N X.env.scope scope own)
    (hg : ∀ (s : Shared) (H : Hp) (C : Addr) (cl : List (Str × Addr)) (fp : List Addr), SimG (X.blk s H scope (compEnvC scope cl C X.env) fp) tg is g)
    (ht : ∀ (s : Shared) (H : Hp) (C : Addr) (cl : List (Str × Addr)) (fp : List Addr), SimTs (X.blk s H scope (compEnvC scope cl C X.env) fp) W0 ifs ft)
    (he : ∀ (s : Shared) (H : Hp) (C : Addr) (cl : List (Str × Addr)) (fp : List Addr), SimE (X.blk s H scope (compEnvC scope cl C X.env) fp) W0 elt fe)
    (hvs : own.map (·.2) = vs := by rfl) (hv : ∀ i ∈ is, i ∈ vs := by decide) (hs : ∀ x, foldedSetIterable iter X.env x = pure x := by intro _; rfl) :
    SimS X Wx (.Assign [.Name y py] (.ListComp elt [⟨tg, iter, ifs, 0⟩] scope pos) spos) (fSet i (fVal (aComp fi g ft fe vs))) ∧
    SimS X Wx (.Assign [.Name y py] (.ListComp elt [⟨tg, iter, ifs, 0⟩] scope pos) spos) (fSet i (fLoc (aComp fi g ft fe vs))) := by
  subst hvs
  obtain ⟨ti, pi, hi⟩ := hi
  have hp := ps_setLc (g := tG X is g) (tt := tT X W0 ft) (te := tE X W0 fe) hc hN hy hyl hsw pi ok hg ht he hs
  refine ⟨SimS.mk hp (fun w d σ D s e h => ?_), SimS.mk hp (fun w d σ D s e h => ?_)⟩
  · refine comp_core hi hv w d σ _ s e ((Pst.of_bind (toS_post s e h)).mono (fun us S1 h1 w1 p xs eS st s1 rs hp => ?_) fun _ _ q => q)
    subst eS
    have st1 := Stp.new s1 (o := .lst xs) hp
    exact h1 (w1.new p (.lst xs)) rfl (st.trans st1) (s1.new hp) _ (((e.ext st.x s).ext st1.x s1).set i (.lst upd_same (fun q => s1.tracked q hp) (rs.ext st1.x s1)))
  · refine comp_core hi hv w d σ _ s e ((Pst.of_bind (toS_post s e h)).mono (fun us S1 h1 w1 p xs eS st s1 rs hp => ?_) fun _ _ q => q)
    subst eS
    have st1 := Stp.push s1 (o := .lst xs) (b := .lst us) hp
    refine h1 (w1.push p (.lst xs) (.lst us)) rfl (st.trans st1) (s1.push hp ⟨xs, upd_same, rs.ext st1.x s1⟩) _ (((e.ext st.x s).ext st1.x s1).set i (.loc ?_))
    show (w1.m ++ [p])[w1.S.length]? = some p
    rw [← s1.len]
    simp
end
end
end DL
namespace DL
open PySem PySem.Spec L2
def hasK (ks : List Key) (k : Key) : Bool := ks.any fun j => decide (j = k)
def replU : List Key → List U → Key → U → List U
  | j :: ks, y :: us, k, u => (if j = k then u else y) :: replU ks us k u
  | _, _, _, _ => []
def putU (ks : List Key) (us : List U) (k : Key) (u : U) : List Key × List U := if hasK ks k then (ks, replU ks us k u) else (ks ++ [k], us ++ [u])
section
variable {K : KM} {w : Wd}
theorem zip_any {k : Key} : ∀ {ks : List Key} {xs : List V}, ks.length = xs.length → ((ks.zip xs).any fun kv => decide (kv.1 = k)) = hasK ks k
  | [], _, _ => rfl
  | j :: ks, [], h => by rw [List.length_cons, List.length_nil] at h; omega
  | j :: ks, x :: xs, h => by
    rw [List.zip_cons_cons, List.any_cons, zip_any (ks := ks) (xs := xs) (by simpa using h)]
    rfl
theorem repl_ok {k : Key} {u : U} {v : V} (r : VR K w u v) : ∀ {ks : List Key} {us : List U} {xs : List V}, ks.length = us.length → VRs K w us xs →
    ∃ xs', (ks.zip xs).map (fun kv => if kv.1 = k then (kv.1, v) else kv) = ks.zip xs' ∧ VRs K w (replU ks us k u) xs' ∧ (replU ks us k u).length = ks.length
  | [], us, xs, h, rs => by
    cases us with
    | nil => exact ⟨[], by rw [List.zip_nil_left, List.zip_nil_left]; rfl, .nil, rfl⟩
    | cons y us => rw [List.length_cons, List.length_nil] at h; omega
  | j :: ks, us, xs, h, rs => by
    cases rs with
    | nil => rw [List.length_cons, List.length_nil] at h; omega
    | @cons y us x xs ry rs =>
      obtain ⟨xs', e, rs', l⟩ := repl_ok r (ks := ks) (by simpa using h) rs
      rw [List.zip_cons_cons, List.map_cons, e]
      by_cases hj : j = k
      · refine ⟨v :: xs', by rw [if_pos hj, List.zip_cons_cons], ?_, ?_⟩
        · show VRs K w ((if j = k then u else y) :: replU ks us k u) (v :: xs')
          rw [if_pos hj]; exact .cons r rs'
        · show ((if j = k then u else y) :: replU ks us k u).length = _
          rw [List.length_cons, List.length_cons, l]
      · refine ⟨x :: xs', by rw [if_neg hj, List.zip_cons_cons], ?_, ?_⟩
        · show VRs K w ((if j = k then u else y) :: replU ks us k u) (x :: xs')
          rw [if_neg hj]; exact .cons ry rs'
        · show ((if j = k then u else y) :: replU ks us k u).length = _
          rw [List.length_cons, List.length_cons, l]
theorem put_ok {k : Key} {u : U} {v : V} (r : VR K w u v) {ks : List Key} {us : List U} {xs : List V} (l : ks.length = us.length) (rs : VRs K w us xs) :
    ∃ xs', putK (ks.zip xs) k v = (putU ks us k u).1.zip xs' ∧ VRs K w (putU ks us k u).2 xs' ∧ (putU ks us k u).1.length = (putU ks us k u).2.length := by
  unfold putK putU
  rw [zip_any (by rw [l, rs.length])]
  cases hasK ks k with
  | true =>
    obtain ⟨xs', e, rs', l'⟩ := repl_ok (k := k) r l rs
    exact ⟨xs', e, rs', l'.symm⟩
  | false =>
    refine ⟨xs ++ [v], ?_, rs.snoc r, ?_⟩
    · show ks.zip xs ++ [(k, v)] = (ks ++ [k]).zip (xs ++ [v])
      rw [List.zip_append (by rw [l, rs.length])]
      rfl
    · show (ks ++ [k]).length = (us ++ [u]).length
      simp [l]
def mergeU (acc : List Key × List U) : List (Key × U) → List Key × List U
  | [] => acc
  | (k, u) :: r => mergeU (putU acc.1 acc.2 k u) r
theorem merge_ok : ∀ {ps : List (Key × U)} {vs : List V} {ks : List Key} {us : List U} {xs : List V}, VRs K w (ps.map (·.2)) vs → ks.length = us.length → VRs K w us xs →
    ∃ xs', mergeK (ks.zip xs) ((ps.map (·.1)).zip vs) = (mergeU (ks, us) ps).1.zip xs' ∧ VRs K w (mergeU (ks, us) ps).2 xs' ∧ (mergeU (ks, us) ps).1.length = (mergeU (ks, us) ps).2.length
  | [], _, ks, us, xs, .nil, l, rs => ⟨xs, rfl, rs, l⟩
  | (k, u) :: ps, v :: vs, ks, us, xs, .cons r rr, l, rs => by
    obtain ⟨xs1, e1, r1, l1⟩ := put_ok (k := k) r l rs
    obtain ⟨xs2, e2, r2, l2⟩ := merge_ok rr l1 r1
    refine ⟨xs2, ?_, r2, l2⟩
    show mergeK (putK (ks.zip xs) k v) ((ps.map (·.1)).zip vs) = _
    rw [e1]
    exact e2
end
section
variable {X : Cx} {Wx : WX}
abbrev FD := En → Sto → R (List Key × List U)
def OkD (X : Cx) (w : Wd) (Q : VK) (p : List Key × List U) (S' : Sto) : Prop :=
  ∀ (w' : Wd) (a : Addr) (xs : List V), w'.S = S' → Stp w w' → SR (KMof X) w' → p.1.length = p.2.length → VRs (KMof X) w' p.2 xs → w'.H a = none → Q (.ref a) (upd w'.H a (.dK (p.1.zip xs)))
theorem OkD.up {w w1 : Wd} {Q : VK} {u : List Key × List U} {S' : Sto} (h : OkD X w Q u S') (st : Stp w w1) : OkD X w1 Q u S' := fun w' p xs e s2 sr l r hp => h w' p xs e (st.trans s2) sr l r hp
def SimD (X : Cx) (Wx : WX) (e : Expr) (f : FD) : Prop := PE X e (fun σ H Q => ∃ (w : Wd) (d : En), w.H = H ∧ SR (KMof X) w ∧ ER (KMof X) w d σ ∧ Pst (f d w.S) (OkD X w Q) (XPost X Wx σ w))
theorem SimD.mk {e : Expr} {f : FD} {t : TE} (p : PE X e t) (h : ∀ (w : Wd) (d : En) (σ : L2.St) (Q : VK), SR (KMof X) w → ER (KMof X) w d σ → Pst (f d w.S) (OkD X w Q) (XPost X Wx σ w) → t σ w.H Q) : SimD X Wx e f :=
  ⟨fun pins s σ H Q I ⟨w, d, e, sr, er, q⟩ => p.run pins s σ H Q I (by subst e; exact h w d σ Q sr er q)⟩
def fDval (g : FD) : FE := fun d S => (g d S).bind fun p S1 => .ok (.dic p.1 p.2) S1
def fDloc (g : FD) : FE := fun d S => (g d S).bind fun p S1 => .ok (.loc S1.length) (S1 ++ [.dic p.1 p.2])
theorem SimD.val {e : Expr} {g : FD} (h : SimD X Wx e g) : SimE X Wx e (fDval g) := by
  refine SimE.mk h (fun w d σ Q s e h0 => ⟨w, d, rfl, s, e, (Pst.of_bind h0).mono (fun p S1 h1 w1 a xs eS st s1 l rs hp => ?_) fun _ _ q => q⟩)
  subst eS
  have st1 := Stp.new s1 (o := .dK (p.1.zip xs)) hp
  exact h1 (w1.new a _) (.ref a) rfl (st.trans st1) (s1.new hp) (.dic upd_same (fun q => s1.tracked q hp) l (rs.ext st1.x s1))
theorem SimD.loc {e : Expr} {g : FD} (h : SimD X Wx e g) : SimE X Wx e (fDloc g) := by
  refine SimE.mk h (fun w d σ Q s e h0 => ⟨w, d, rfl, s, e, (Pst.of_bind h0).mono (fun p S1 h1 w1 a xs eS st s1 l rs hp => ?_) fun _ _ q => q⟩)
  subst eS
  have st1 := Stp.push s1 (o := .dK (p.1.zip xs)) (b := .dic p.1 p.2) hp
  refine h1 (w1.push a _ (.dic p.1 p.2)) (.ref a) rfl (st.trans st1) (s1.push hp ⟨xs, upd_same, l, rs.ext st1.x s1⟩) (.loc ?_)
  show (w1.m ++ [a])[w1.S.length]? = some a
  rw [← s1.len]
  simp
variable {pos : Pos}
def dNew : FD := fun _ S => .ok ([], []) S
theorem sd_new : SimD X Wx (.Dict [] [] pos) dNew := SimD.mk pe_dnewK (fun w d σ Q s e h p hp => h w p [] rfl (Stp.refl w) s rfl .nil hp)
def evalP : List (FE × FE) → En → Sto → R (List (Key × U))
  | [], _, S => .ok [] S
  | (fk, fv) :: r, d, S => match fk d S with
    | .ok x S1 => match fv d S1 with
      | .ok y S2 => match evalP r d S2 with
        | .ok ps S3 => match keyU x with
          | some k => .ok ((k, y) :: ps) S3
          | none => .bad
        | _ => .bad
      | _ => .bad
    | _ => .bad
def SimP (X : Cx) (Wx : WX) (pos : Pos) (keys : List (Option Expr)) (values : List Expr) (fs : List (FE × FE)) : Prop := PPs X pos keys values (fs.map fun p => (tE X Wx p.1, tE X Wx p.2))
theorem sp_nil : SimP X Wx pos [] [] [] := pps_nil
theorem sp_cons {k v : Expr} {ks : List (Option Expr)} {vs : List Expr} {fk fv : FE} {fs : List (FE × FE)} (hk : SimE X Wx k fk) (hv : SimE X Wx v fv) (hr : SimP X Wx pos ks vs fs) : SimP X Wx pos (some k :: ks) (v :: vs) ((fk, fv) :: fs) := pps_cons hk hv hr
theorem evalP_ok : ∀ {fs : List (FE × FE)} {w : Wd} {d : En} {σ : L2.St} {Q : List (V × V) → Hp → Prop}, SR (KMof X) w → ER (KMof X) w d σ →
    Pst (evalP fs d w.S) (fun ps S' => ∀ (w' : Wd) (vs : List V), w'.S = S' → Stp w w' → SR (KMof X) w' → VRs (KMof X) w' (ps.map (·.2)) vs → Q (((ps.map (·.1)).map kV).zip vs) w'.H) (fun _ _ => False) → tPairs (fs.map fun p => (tE X Wx p.1, tE X Wx p.2)) σ w.H Q
  | [], w, d, σ, Q, s, e, h => h w [] rfl (Stp.refl w) s .nil
  | (fk, fv) :: r, w, d, σ, Q, s, e, h => by
    unfold evalP at h
    split at h
    · rename_i x S1 hx
      refine ⟨w, d, rfl, s, e, ?_⟩
      show Pst (fk d w.S) _ _
      rw [hx]
      intro w1 v1 eS1 st1 s1 r1
      rw [← eS1] at h
      split at h
      · rename_i y S2 hy
        refine ⟨w1, d, rfl, s1, e.ext st1.x s, ?_⟩
        show Pst (fv d w1.S) _ _
        rw [hy]
        intro w2 v2 eS2 st2 s2 r2
        rw [← eS2] at h
        refine evalP_ok (d := d) s2 ((e.ext st1.x s).ext st2.x s1) ?_
        split at h
        · rename_i ps S3 hp
          rw [hp]
          intro w3 vs eS3 st3 s3 rs
          split at h
          · rename_i k hk
            have hv1 := keyU_ok r1 hk
            have h3 := h w3 (v2 :: vs) eS3 ((st1.trans st2).trans st3) s3 (.cons (r2.ext st3.x s2) rs)
            rw [hv1]
            exact h3
          · exact h.elim
        · exact h.elim
      · exact h.elim
    · exact h.elim
def dDisp (fs : List (FE × FE)) : FD := fun d S => match evalP fs d S with
  | .ok ps S1 => guard (decide (ps.length ≤ 15)) (.ok (mergeU ([], []) ps) S1)
  | _ => .bad
theorem sd_disp {keys : List (Option Expr)} {values : List Expr} {fs : List (FE × FE)} (h : SimP X Wx pos keys values fs) (hall : keys.all (·.isSome) = true := by rfl) (hl : keys.length = values.length := by rfl) (h0 : keys ≠ [] := by intro z; cases z)
    (hn : keys.length ≤ 15 := by decide) : SimD X Wx (.Dict keys values pos) (dDisp fs) := by
  refine SimD.mk (pe_disp h hall hl h0 hn) (fun w d σ Q s e h => ?_)
  intro p hp
  have sh := s.hold (o := .dK []) hp (.inr ⟨_, rfl⟩)
  have xh := Ext.hold s (o := .dK []) hp
  have np : p ∉ w.r := fun z => s.tracked (.inl z) hp
  refine evalP_ok (w := w.hold p (.dK [])) (d := d) sh (e.ext xh s) ?_
  show Pst (evalP fs d w.S) _ _
  unfold dDisp at h
  split at h
  · rename_i ps S1 hps
    rw [hps]
    obtain ⟨hlen, h⟩ := guard_post h
    intro w1 vs eS st1 s1 rs
    have hpr : p ∈ w1.r := by rw [st1.r]; exact List.mem_cons_self
    have ep : w1.H p = some (.dK []) := (st1.k p List.mem_cons_self).trans upd_same
    refine ⟨ep, (ps.map (·.1)).zip vs, ?_, ?_, ?_⟩
    · have : ∀ (ks : List Key) (vs : List V), (ks.map kV).zip vs = (ks.zip vs).map fun kv => (kV kv.1, kv.2) := fun ks => by
        induction ks with
        | nil => intro vs; rfl
        | cons k ks ih =>
          intro vs
          cases vs with
          | nil => rfl
          | cons v vs => rw [List.map_cons, List.zip_cons_cons, List.zip_cons_cons, List.map_cons, ih]
      exact this _ _
    · rw [List.length_zip, List.length_map]
      exact Nat.le_trans (Nat.min_le_left _ _) (of_decide_eq_true hlen)
    · obtain ⟨xs', em, rm, lm⟩ := merge_ok (ks := []) (us := []) (xs := []) (rs.cut s1 (.inl hpr)) rfl .nil
      have em' : mergeK [] ((ps.map (·.1)).zip vs) = (mergeU ([], []) ps).1.zip xs' := em
      rw [em']
      have hq := h (w1.cut p) p xs' eS ⟨(xh.trans st1.x).cut hp, ?_, fun a ha => ?_⟩ (s1.cut hpr) lm rm cut_D
      · have hb : upd (w1.cut p).H p (.dK ((mergeU ([], []) ps).1.zip xs')) = upd w1.H p (.dK ((mergeU ([], []) ps).1.zip xs')) := by
          funext b
          by_cases eb : b = p
          · subst eb; rw [upd_same, upd_same]
          · rw [upd_ne eb, upd_ne eb, cut_at eb]
        rw [hb] at hq
        exact hq
      · show w1.r.filter _ = w.r
        rw [st1.r]
        exact let_go_r np
      · rw [cut_at fun z => np (by rw [← z]; exact ha), st1.k a (List.mem_cons_of_mem _ ha)]
        show upd w.H p _ a = w.H a
        rw [upd_ne fun z => np (by rw [← z]; exact ha)]
  · exact h.elim
def stU (o i v : U) (S : Sto) : Option Sto := match o with
  | .loc n => match S[n]? with
    | some (.lst us) => match i with
      | .int k => (ixN us.length k).map fun j => S.set n (.lst (us.set j v))
      | _ => none
    | some (.dic ks us) => match keyU i with
      | some k => if ks.length < sizeLine then some (S.set n (.dic (putU ks us k v).1 (putU ks us k v).2)) else none
      | none => none
    | _ => none
  | _ => none
theorem set_any (hu : X.A.units + 1 < cLine) : PSet X (fun o i v H Q => rSetL o i v H Q ∨ ∃ a H', o = .ref a ∧ DPut H a i v H' ∧ Q H') := by
  intro pins s σ H o i v ov iv u Q I ro ri rv h
  rcases h with h | ⟨a, H', rfl, g, q⟩
  · exact set_list pins s σ H o i v ov iv u Q I ro ri rv h
  · cases ro
    exact d_setItem hu I g ri rv fun s' I' => ⟨H', I', q⟩
def fStore (fe fo fi : FE) : FS := fun d S => toS d (fe d S) fun v S1 => toS d (fo d S1) fun o S2 => toS d (fi d S2) fun i S3 => match stU o i v S3 with
  | some S4 => .ok (.nx d) S4
  | none => .bad
theorem ss_store {e o i : Expr} {fe fo fi : FE} {p2 : Pos} (hu : X.A.units + 1 < cLine) (he : SimE X Wx e fe) (ho : SimE X Wx o fo) (hi : SimE X Wx i fi)
    (ha : ∀ v, assign (.Subscript o i p2) X.env v = (do
      let ov ← holding [v] (eval o X.env)
      let iv ← holding [v, ov] (eval i X.env)
      standAt p2
      holding [v, ov, iv] (setItem ov iv v)
      release [v, ov, iv] []) := by intro _; rfl)
    (hs : swapsWithSole [.Subscript o i p2] e pos.line X.env = pure false := by rfl) (hw : swappedStores [.Subscript o i p2] e X.env = pure none := by rfl)
    (h1 : (assignEach [.Subscript o i p2] X.env).map (·.2) = [assign (.Subscript o i p2) X.env] := by rfl) : SimS X Wx (.Assign [.Subscript o i p2] e pos) (fStore fe fo fi) := by
  obtain ⟨te, pe, he⟩ := he.out
  obtain ⟨to, po, ho⟩ := ho.out
  obtain ⟨ti, pi, hi⟩ := hi.out
  refine SimS.mk (ps_asg pe (pg_sub po pi (set_any hu) ha) hs hw h1) (fun w d σ D s e h => ?_)
  refine he w d σ _ s e ((toS_post s e h).mono (fun v S1 h1 w1 vv eS st s1 rv => ?_) fun _ _ q => q)
  subst eS
  have e1 := e.ext st.x s
  refine ho w1 d σ _ s1 e1 ((toS_post s1 e1 (Pst.mono h1 (fun _ _ q => q.up st) fun _ _ q => q)).mono (fun ou S2 h2 w2 vo eS2 st2 s2 ro => ?_) fun _ _ q => q)
  subst eS2
  have e2 := e1.ext st2.x s1
  refine hi w2 d σ _ s2 e2 ((toS_post s2 e2 (Pst.mono h2 (fun _ _ q => q.up st2) fun _ _ q => q)).mono (fun iu S3 h3 w3 vi eS3 st3 s3 ri => ?_) fun _ _ q => q)
  subst eS3
  have ro3 := ro.ext st3.x s2
  have rv3 := (rv.ext st2.x s1).ext st3.x s2
  have e3 := e2.ext st3.x s2
  have fin : ∀ {w4 : Wd}, Stp w3 w4 → SR (KMof X) w4 → OkS X Wx w2 D (.nx d) w4.S → D.nx σ w4.H := fun {w4} st4 s4 q => q w4 rfl (st3.trans st4) s4 σ (e3.ext st4.x s3)
  split at h3
  · rename_i S4 hS4
    unfold stU at hS4
    split at hS4
    · rename_i n
      cases ro3 with
      | @loc _ a hm =>
        split at hS4
        · rename_i us hS
          split at hS4
          · rename_i k
            cases ri
            cases hj : ixN us.length k with
            | none => rw [hj] at hS4; cases hS4
            | some j =>
              rw [hj] at hS4
              cases hS4
              obtain ⟨xs, q, rs⟩ := s3.obj n a _ hm hS
              have st4 : Stp w3 (w3.put n a (.lst (xs.set j vv)) (.lst (us.set j v))) := Stp.put s3 hm hS (by intro z; cases z)
              exact .inl ⟨a, xs, k, j, rfl, rfl, q, by rw [← rs.length]; exact hj, fin st4 (s3.put hm hS (by intro z; cases z) ⟨_, upd_same, (rs.set rv3 j).ext st4.x s3⟩) h3⟩
          · cases hS4
        · rename_i ks us hS
          split at hS4
          · rename_i k hk
            split at hS4
            · rename_i hl
              cases hS4
              obtain ⟨xs, q, l, rs⟩ := s3.obj n a _ hm hS
              rw [keyU_ok ri hk]
              obtain ⟨xs', ep, rs', l'⟩ := put_ok (k := k) rv3 l rs
              have st4 : Stp w3 (w3.put n a (.dK ((putU ks us k v).1.zip xs')) (.dic (putU ks us k v).1 (putU ks us k v).2)) := Stp.put s3 hm hS (by intro z; cases z)
              refine .inr ⟨a, _, rfl, DPut.k q (by rw [zip_len l rs]; exact hl), ?_⟩
              rw [ep]
              exact fin st4 (s3.put hm hS (by intro z; cases z) ⟨_, upd_same, l', rs'.ext st4.x s3⟩) h3
            · cases hS4
          · cases hS4
        · cases hS4
    · cases hS4
  · exact h3.elim
end
end DL
namespace DL
open PySem PySem.Spec L2
def fB (f : FE) : FT := fun d S => asB (f d S)
def fNever : FS := fun _ _ => .bad
section
variable {X : Cx} {Wx : WX} {pos : Pos}
theorem se_ty (n : String) {x : Str} (hg : Gl X x) (hm : X.mg x = none) (hv : bootBuiltins x = some (.type n)) (hn : x ≠ "__name__" := by decide) (hd : (x == ("__debug__" : Str)) = false := by decide) : SimE X Wx (.Name x pos) (fC (.ty n)) :=
  se_bltn hg hm hv (v := .ty n) rfl (fun _ => .ty n) hn hd
inductive TabOk (K : PySem.W.Frag) : List DictEntry → List (Str × U) → Prop
  | nil : TabOk K [] []
  | cons {e : DictEntry} {es : List DictEntry} {k : Str} {t : Tok} {v : V} {u : U} {tab : List (Str × U)} : e.key = .str k t → RelV v e.val → (∀ w mg P wd, VR ⟨K, mg, P, wd⟩ w u v) → TabOk K es tab → TabOk K (e :: es) ((k, u) :: tab)
theorem TabOk.i {K : PySem.W.Frag} {e : DictEntry} {es : List DictEntry} {k : Str} {t tk : Tok} {i : Int} {tab : List (Str × U)} (hk : e.key = .str k t) (hv : e.val = .int i tk) (r : TabOk K es tab) : TabOk K (e :: es) ((k, .int i) :: tab) := .cons hk (v := .int i) ⟨tk, hv⟩ (fun _ _ _ _ => .int i) r
theorem TabOk.s {K : PySem.W.Frag} {e : DictEntry} {es : List DictEntry} {k x : Str} {t tk : Tok} {tab : List (Str × U)} (hk : e.key = .str k t) (hv : e.val = .str x tk) (r : TabOk K es tab) : TabOk K (e :: es) ((k, .str x) :: tab) := .cons hk (v := .str x) ⟨tk, hv⟩ (fun _ _ _ _ => .str x) r
structure KTab (K : PySem.W.Frag) (wd : World) (a : Addr) (tab : List (Str × U)) : Prop where
  ex : ∃ (es : List DictEntry) (n : Nat), KDict K wd a es.toArray n ∧ TabOk K es tab
def lookT : List (Str × U) → Str → Option U
  | [], _ => none
  | (k, u) :: r, z => if k = z then some u else lookT r z
theorem tab_find {K : PySem.W.Frag} {z : Str} : ∀ {es : List DictEntry} {tab : List (Str × U)}, TabOk K es tab →
    (lookT tab z = none → findBy Value.isStrOf es.toArray z = none) ∧ ∀ u, lookT tab z = some u → ∃ val v, findBy Value.isStrOf es.toArray z = some val ∧ RelV v val ∧ ∀ w mg P wd, VR ⟨K, mg, P, wd⟩ w u v
  | _, _, .nil => ⟨fun _ => rfl, fun u h => by cases h⟩
  | _, _, .cons (e := e) (es := es) (k := k) (t := t) (u := u) (tab := tab) hk hv hr ht => by
    have hf : findBy Value.isStrOf (e :: es).toArray z = if k = z then some e.val else findBy Value.isStrOf es.toArray z := by
      unfold findBy
      rw [List.find?_toArray, List.find?_toArray, List.find?_cons]
      have hb : Value.isStrOf z e.key = decide (k = z) := by
        rw [hk]
        by_cases q : k = z
        · subst q; rw [decide_eq_true rfl]; simp [Value.isStrOf]
        · rw [decide_eq_false q]; simp [Value.isStrOf, q]
      rw [hb]
      by_cases q : k = z
      · rw [if_pos q, decide_eq_true q]; rfl
      · rw [if_neg q, decide_eq_false q]
    rw [hf]
    unfold lookT
    by_cases q : k = z
    · rw [if_pos q, if_pos q]
      exact ⟨fun h => (nomatch h), fun y h => (by cases h; exact ⟨e.val, _, rfl, hv, hr⟩)⟩
    · rw [if_neg q, if_neg q]
      exact tab_find ht
def fWget (tab : List (Str × U)) (f : FE) : FE := fun d S => (f d S).bind fun u S1 => match u with
  | .str z => .ok ((lookT tab z).getD .non) S1
  | _ => .bad
theorem kd_at {pins : List (Addr × Obj)} {σ : L2.St} {H : Hp} {s : Shared} {a : Addr} {es : Array DictEntry} {n : Nat} (I : Inv X pins σ H s) (D : KDict X.K X.w a es n) : ∀ b, Value.ref a = .ref b → ∃ ob, s.heap.get? b = some ob ∧ ob.dict = none := fun b e => by
  cases e
  exact ⟨_, I.kIn _ _ D.at_, rfl⟩
theorem pe_wget {x : Str} {p apos cpos : Pos} {a : Addr} {tab : List (Str × U)} {e : Expr} {te : TE} (D : KTab X.K X.w a tab) (hg : Gl X x) (hm : X.mg x = some (.ref a)) (he : PE X e te) (m : M1 X (.Name x p) "get" apos e cpos) (hd : (x == ("__debug__" : Str)) = false) :
    PE X (.Call (.Attribute (.Name x p) "get" apos) [e] [] cpos) (fun σ H Q => te σ H fun y H1 => ∃ z, y = .str z ∧ (lookT tab z = none → Q .non H1) ∧ ∀ u, lookT tab z = some u → ∀ v, (∀ w, VR (KMof X) w u v) → Q v H1) := by
  obtain ⟨es, n, D, ht⟩ := D.ex
  refine ⟨fun pins s σ H Q I h => ?_⟩
  refine wpAny_Call_method m.base m.few m.line PySem.F.plainAttrs_dict PySem.F.slot_dict_get PySem.F.type_dict_get (ld_glob I hg hm ⟨kd_type D I, kd_at I D, ?_⟩ hd)
  rw [m.trees]
  refine Calls.callWith_builtin rfl (Calls.evalArgs_plain (Calls.spliced_cons (thn (he.run pins s σ H _ I h) fun iv s2 ⟨y, H2, I2, ry, z, ez, q1, q2⟩ => Calls.spliced_nil ?_)))
  subst ez
  obtain ⟨t, rfl⟩ := ry
  have hmap := PySem.W.mapOf_K (prog := X.prog) (w := X.w) I2.kIn D.at_ D.lit
  refine call_meetsIn PySem.F.slot_dict_get hmap.typeIs PySem.F.entry_dict_get (PySem.F.args_dict_get_2 _ _) (meets_dict_get (strKind X.prog X.w) a (PySem.strKind_is X.prog X.w z t) D.low) ⟨_, hmap, ?_⟩
  obtain ⟨f1, f2⟩ := tab_find (z := z) ht
  cases hl : lookT tab z with
  | none =>
    rw [f1 hl]
    exact ⟨.non, H2, I2.tok _, rfl, q1 hl⟩
  | some u =>
    obtain ⟨val, v, e1, e2, e3⟩ := f2 u hl
    rw [e1]
    exact ⟨v, H2, I2.tok _, e2, q2 u hl v (fun w => e3 w _ _ _)⟩
theorem se_wget {x : Str} {p apos cpos : Pos} {a : Addr} {tab : List (Str × U)} {e : Expr} {f : FE} (D : KTab X.K X.w a tab) (hg : Gl X x) (hm : X.mg x = some (.ref a)) (he : SimE X Wx e f)
    (m : M1 X (.Name x p) "get" apos e cpos := by exact ⟨rfl, rfl, rfl, rfl⟩) (hd : (x == ("__debug__" : Str)) = false := by decide) : SimE X Wx (.Call (.Attribute (.Name x p) "get" apos) [e] [] cpos) (fWget tab f) := by
  obtain ⟨t, pe, he⟩ := he.out
  refine SimE.mk (pe_wget D hg hm pe m hd) (fun w d σ Q s e h => ?_)
  refine he w d σ _ s e ((Pst.of_bind h).mono (fun u S1 h1 w1 v eS st s1 r => ?_) fun _ _ q => q)
  cases r with
  | str z =>
    refine ⟨z, rfl, fun hl => ?_, fun u hl v hv => ?_⟩
    · have h1 : OkE X w Q ((lookT tab z).getD .non) S1 := h1
      rw [hl] at h1
      exact h1 w1 .non eS st s1 .non
    · have h1 : OkE X w Q ((lookT tab z).getD .non) S1 := h1
      rw [hl] at h1
      exact h1 w1 v eS st s1 (hv w1)
  | _ => exact h1.elim
theorem cx_none {P : Program} {w : World} {outer : List Env} {H : Hp} {s : Shared} {e : Value} {s' : Shared} (h : L2.CX P w outer H s (fun _ _ _ => False) e s') : False := by
  obtain ⟨_, _, _, _, _, _, _, _, _, _, _, _, z⟩ := h
  exact z
def spLaw (K : PySem.W.Frag) (n : Nat) : Sp := fun vs H Q _ => ∃ (a : Addr) (ns : List Int), vs = [.ref a] ∧ Only H ∧ SqL K H a (ns.map V.int) ∧ ns.length ≤ n ∧ ∀ H', Q (.bl true) H'
theorem ints_vr {K : KM} {w : Wd} : ∀ ns : List Int, VRs K w (ns.map U.int) (ns.map V.int)
  | [] => .nil
  | n :: ns => .cons (.int n) (ints_vr ns)
theorem law_of {P : Program} {w : World} {K : PySem.W.Frag} {mg : Str → Option Value} {base : Heap} {k n : Nat} {f : Addr} {fd : FuncData} {ps : List Str} {g : List U → Sto → R U}
    (F : FnOk P w K mg base (L2.CX P w) k f fd ps (spOf ⟨K, mg, P, w⟩ 1 g)) (hg : ∀ ns : List Int, ns.length ≤ n → ∃ S', g [.frz (ns.map .int)] [] = .ok (.bl true) S') : FnOk P w K mg base (L2.CX P w) k f fd ps (spLaw K n) := by
  refine F.imp fun vs H Q E h => ?_
  obtain ⟨a, ns, rfl, ho, hq, hl, q⟩ := h
  obtain ⟨S', e⟩ := hg ns hl
  have fz : FzL K H a (ns.map V.int) := by
    rcases hq with (h | h) | h
    · rcases ho a with z | ⟨o, xs, z⟩
      · rw [h] at z; cases z
      · rw [h] at z; cases z
    · exact .inl h
    · exact .inr h
  refine ⟨⟨[], [], H, []⟩, [.frz (ns.map .int)], rfl, ⟨rfl, fun i j a o o' h1 => (by simp at h1), fun n a o h1 => (by simp at h1), fun a h => (by simp at h), fun a h => (by simp at h)⟩, .cons (.frz fz (ints_vr ns)) .nil, rfl, ?_⟩
  rw [e]
  intro w' v _ _ _ r
  cases r
  exact q _
end
end DL
set_option maxHeartbeats 4000000
namespace PySem
namespace OX
open PySem.W PySem.Calls PyProof.Rows PySem.HandSPX
structure NewF (O newId : String) (bm : List Value) : Prop where
  quiet : newId.startsWith "lifetime." = false
  split : splitId newId = some (O, "__new__")
  kind : builtinKind newId = some .builtinFn
  row : Manifest.signature? newId = some ⟨.any, O, O, .cls, [⟨"args", .varPos, false⟩, ⟨"kwargs", .varKw, false⟩]⟩
  has : bm.contains (.type O) = true
  noA : bm.contains (.type "AttributeError") = false
  noN : bm.contains (.type "NameError") = false
  canon : Manifest.canonical newId = Manifest.canonical "BaseException.__new__"
  ends : newId.endsWith ".__new__" = true
  owner : newId.dropRight 8 = O
  entry : entryFor table newId = some Builtin.«BaseException.__new__»
  star : (O != "*") = true
structure InitF (B initId : String) (bm : List Value) : Prop where
  plain : plainId initId = true
  entry : entryFor table initId = some Builtin.«BaseException.__init__»
  kind : builtinKind initId = some .slot
  split : splitId initId = some (B, "__init__")
  row : Manifest.signature? initId = some ⟨.positional, "*", B, .self, [⟨"args", .varPos, false⟩]⟩
  has : bm.contains (.type B) = true
  star : (B != "*") = true
theorem NewF.of {B n i : String} {bm : List Value} (F : ExcBaseFacts B n i bm) : NewF B n bm := ⟨F.quiet, F.newSplit, F.newKind, F.newRow, F.hasB, F.noAttr, F.noName, F.canon, F.ends, F.owner, F.entry, F.noStar⟩
theorem InitF.of {B n i : String} {bm : List Value} (F : ExcBaseFacts B n i bm) : InitF B i bm := ⟨F.init.plain, F.initEntry, F.initKind, F.initSplit, F.initRow, F.hasB, F.noStar⟩
theorem tail_KeyError_new : NewF "LookupError" "LookupError.__new__" [.type "KeyError", .type "LookupError", .type "Exception", .type "BaseException", .type "object"] :=
  ⟨by decide +kernel, by kernel_rfl, by kernel_rfl, by kernel_rfl, by decide +kernel, by decide +kernel, by decide +kernel, by decide +kernel, by decide +kernel, by decide +kernel, F.excBase_LookupError.entry, by decide +kernel⟩
theorem tail_KeyError_init : InitF "KeyError" "KeyError.__init__" [.type "KeyError", .type "LookupError", .type "Exception", .type "BaseException", .type "object"] :=
  ⟨excClass_KeyError.init.plain, excClass_KeyError.initEntry, by kernel_rfl, by kernel_rfl, by kernel_rfl, by decide +kernel, by decide +kernel⟩
theorem store_KeyError : StoreFacts "KeyError" [.type "KeyError", .type "LookupError", .type "Exception", .type "BaseException", .type "object"] "object.__setattr__" "object" where
  mro := by kernel_rfl
  slot := .of (owner := "object") (n := "__setattr__") (by rw [typeLookup_type, builtinLookup_eq_fast]; kernel_rfl) (by decide +kernel) (by decide +kernel) (by decide +kernel) (by first | exact .inl (by decide +kernel) | exact .inr (by decide +kernel)) (by rw [isSubtype_type]; kernel_rfl)
  entry := F.store_LookupError.entry
  kind := F.store_LookupError.kind
  split := F.store_LookupError.split
  hasOwner := by decide +kernel
  args := F.store_LookupError.args
  passes := fun self => by kernel_rfl
section
variable {P : Program} {wd : World} {Ar : Around} {Er : Value → Shared → Prop} {Rs : Result → Shared → Prop} {hp : Heap} {gs : Array GenState} {dn : Drawn} {tk : Nat} {so : OsState}
variable {nm qn : Str} {C N : Addr} {bs bm : List Value} {hd : Bool} {sn : List Str} {sb : List Value} {ab : Bool} {col : Option Bool} {dd : Option Addr} {e0 e1 e2 e3 e5 : Option Value} {O B newId initId : String}
theorem new_checked {M : Model} (F : NewF O newId bm) {vs : List Value} {Q : Unit → Shared → Prop} (hC : hp.get? C = some (excClassObj nm qn C N bs bm hd sn sb ab col dd e0 e1 e2 e3 e5 newId)) (hq : Q () ⟨hp, gs, dn, tk, so⟩) :
    wpAny M Ar (checkBuiltinCall newId ⟨.ref C :: vs, []⟩) Q Er ⟨hp, gs, dn, tk, so⟩ := by
  have c1 : (Value.ref C :: bm).contains (.type O) = true := by rw [List.contains_cons, F.has, Bool.or_true]
  have c2 := F.star
  simp only [checkBuiltinCall, F.kind, F.split, F.row]
  repeat (first | refine wpAny_loadPart_at hC ?_ | (refine wpAny_isSubtype_exc hC ?_; rw [c1]) | refine wpAny_staticBase_exc hC ?_ | refine wpAny_madeBy_exc hC ?_ | simp only [bne_self_eq_false, Bool.false_eq_true, if_false] | wp_step)
  exact hq
theorem init_checked {M : Model} (F : InitF B initId bm) {e : Addr} {oe : Obj} {vs : List Value} {Q : Unit → Shared → Prop} (hC : hp.get? C = some (excClassObj nm qn C N bs bm hd sn sb ab col dd e0 e1 e2 e3 e5 newId)) (he : hp.get? e = some oe) (hk : oe.cls = .ref C) (hq : Q () ⟨hp, gs, dn, tk, so⟩) :
    wpAny M Ar (checkBuiltinCall initId ⟨.ref e :: vs, []⟩) Q Er ⟨hp, gs, dn, tk, so⟩ := by
  have c1 : (Value.ref C :: bm).contains (.type B) = true := by rw [List.contains_cons, F.has, Bool.or_true]
  have c2 := F.star
  simp only [checkBuiltinCall, F.kind, F.split, F.row]
  repeat (first | (with_reducible refine wpAny_loadPart_at he ?_; rw [hk]) | with_reducible refine wpAny_loadPart_at hC ?_ | (with_reducible refine wpAny_isSubtype_exc hC ?_; rw [c1]) | wp_step)
  refine wpAny_onRaise ?_
  rw [show ∀ (a b : String) (n : Nat), Bind.check ⟨.positional, "*", B, .self, [⟨"args", .varPos, false⟩]⟩ a b n (List.map (fun x => x.fst) ({ pos := Value.ref e :: vs } : Args).kw) = pure () from fun a b n => check_star_args _ _ _ _ _ _]
  exact wpAny_pure hq
theorem new_made (F : NewF O newId bm) {vs : List Value} (hC : hp.get? C = some (excClassObj nm qn C N bs bm hd sn sb ab col dd e0 e1 e2 e3 e5 newId))
    (hq : Rs (.ok (.ret (.ref (hp.objs.size + 1)))) ⟨(hp.push (kdv_tup vs)).push (excO C hp.objs.size), gs, dn, tk, so⟩) (hl : vs.length ≤ sizeLine) : codeAny (model P wd) Ar (.builtin newId ⟨.ref C :: vs, []⟩) Rs ⟨hp, gs, dn, tk, so⟩ := by
  have c0 := F.ends
  have c1 : (Value.ref C :: bm).contains (.type O) = true := by rw [List.contains_cons, F.has, Bool.or_true]
  have c2 : (Value.ref C :: bm).contains (.type "AttributeError") = false := by rw [List.contains_cons, F.noA]; rfl
  have c3 : (Value.ref C :: bm).contains (.type "NameError") = false := by rw [List.contains_cons, F.noN]; rfl
  refine codeAny_builtinAt F.entry ?_
  unfold Builtin.«BaseException.__new__»
  refine wpAt_bind (show wpAt _ _ _ (stack >>= _) _ _ _ from ?_)
  refine wpAt_bind (wpAt_stack fun p q => wpAt_of_wpAny ?_)
  wp_walk
  refine wpAt_of_wpAny ?_
  rw [F.owner]
  repeat (first | with_reducible refine wpAny_madeHere_exc F.canon hC ?_ | with_reducible refine wpAny_loadPart_at hC ?_ | (with_reducible refine wpAny_isSubtype_exc hC ?_; first | rw [c1] | rw [c2] | rw [c3]) | wp_step)
  show Rs _ _
  rw [Heap.size_push]
  exact hq
theorem type_called (F : NewF O newId bm) {vs : List Value} {fI : Addr} {Q : Fin → Shared → Prop} (hC : hp.get? C = some (excClassObj nm qn C N bs bm hd sn sb ab col dd e0 e1 e2 e3 e5 newId))
    (hi : Looks (model P wd) hp (typeLookup (.ref C) "__init__") (some (.ref fI))) (hb : ∀ self, Looks (model P wd) hp (bindSpecial (.ref fI) self) (.ref fI, [self])) (hl : vs.length ≤ sizeLine)
    (hq : codeAny (model P wd) Ar (.call (.ref fI) ⟨.ref (hp.objs.size + 1) :: vs, []⟩) (fun r s' => match r with
      | .ok (.ret v) => v = .none ∧ Q (.done (.ret (.ref (hp.objs.size + 1)))) s'
      | .ok _ => False
      | .error e => Er e s') ⟨(hp.push (kdv_tup vs)).push (excO C hp.objs.size), gs, dn, tk, so⟩) :
    wpAny (model P wd) Ar (Builtin.«type.__call__» ⟨.ref C :: vs, []⟩) Q Er ⟨hp, gs, dn, tk, so⟩ := by
  repeat (first | with_reducible refine wpAny_loadPart_at hC ?_ | with_reducible refine wpAny_madeBy_exc hC ?_ | wp_step)
  refine codeAny_call_builtin_code (Code.quiet_builtin _ F.quiet) (new_checked F hC (new_made F hC (show wpAny _ _ _ _ _ _ from ?_) hl))
  have k : ∀ b o, hp.get? b = some o → ((hp.push (kdv_tup vs)).push (excO C hp.objs.size)).get? b = some o := fun b o q => Heap.get?_push_of_some _ (Heap.get?_push_of_some _ q)
  have hC' := k _ _ hC
  have hg : ((hp.push (kdv_tup vs)).push (excO C hp.objs.size)).get? (hp.objs.size + 1) = some (excO C hp.objs.size) := by heap_get
  have cC : (Value.ref C :: bm).contains (.ref C) = true := by simp
  have l1 := hi.keeps k
  have l2 := (hb (.ref (hp.objs.size + 1))).keeps k
  unfold isInstance
  repeat (first | with_reducible refine wpAny_loadPart_at hg ?_ | (with_reducible refine wpAny_isSubtype_exc hC' ?_; rw [cC]) | wp_step)
  refine (show wpAny _ _ (typeLookup (.ref C) _) _ _ _ from l1.at (wpAny_holding (wpAny_bind (l2.at (wpAny_bind (wpAny_call (codeAny_mono hq fun r s' z => ?_)))))))
  rcases r with e | (v | _ | _ | _) <;> first | exact z | exact z.elim | skip
  obtain ⟨rfl, z⟩ := z
  first
    | exact wpAny_pure (wpAny_pure z)
    | (wp_walk; exact z)
theorem class_called (F : NewF O newId bm) {vs : List Value} {fI : Addr} (hC : hp.get? C = some (excClassObj nm qn C N bs bm hd sn sb ab col dd e0 e1 e2 e3 e5 newId))
    (hi : Looks (model P wd) hp (typeLookup (.ref C) "__init__") (some (.ref fI))) (hb : ∀ self, Looks (model P wd) hp (bindSpecial (.ref fI) self) (.ref fI, [self])) (hl : vs.length ≤ sizeLine)
    (hq : codeAny (model P wd) (Ar.under (.builtin "type.__call__" ⟨.ref C :: vs, []⟩)) (.call (.ref fI) ⟨.ref (hp.objs.size + 1) :: vs, []⟩) (InitBack (hp.objs.size + 1) Rs) ⟨(hp.push (kdv_tup vs)).push (excO C hp.objs.size), gs, dn, tk, so⟩) :
    codeAny (model P wd) Ar (.call (.ref C) ⟨vs, []⟩) Rs ⟨hp, gs, dn, tk, so⟩ := by
  have g1 := tc_lookup
  have g2 := tc_bind (.ref C)
  have g3 : (⟨hp, gs, dn, tk, so⟩ : Shared).TypeIs (.ref C) "type" := ⟨_, hC, rfl⟩
  refine codeAny_of_tree (show wpAny _ _ (callAny (.ref C) _) _ _ _ from ?_)
  repeat (any_goals (first | assumption | with_reducible refine wpAny_loadPart_at hC ?_ | wp_step))
  refine ⟨rfl, codeAny_call_builtin_at (Code.quiet_builtin _ (by decide +kernel)) entry_typeCall (wpAny_check_type_call_sub hC (type_called F hC hi hb hl (codeAny_mono hq fun r s' z => ?_)))⟩
  rcases r with e | (v | _ | _ | _) <;> exact z
theorem base_init (F : InitF B initId bm) {e t0 : Addr} {vs : List Value} (hC : hp.get? C = some (excClassObj nm qn C N bs bm hd sn sb ab col dd e0 e1 e2 e3 e5 newId)) (he : hp.get? e = some (excO C t0)) (hl : vs.length ≤ sizeLine)
    (hq : ∀ h' t1, (∀ b o, b ≠ e → hp.get? b = some o → h'.get? b = some o) → h'.get? e = some (excO C t1) → Rs (.ok (.ret .none)) ⟨h', gs, dn, tk, so⟩) : codeAny (model P wd) Ar (.call (.builtin initId) ⟨.ref e :: vs, []⟩) Rs ⟨hp, gs, dn, tk, so⟩ := by
  refine codeAny_call_builtin F.plain F.entry (init_checked F hC he rfl ?_)
  wp_walk
  refine hq _ hp.objs.size (fun b o nb q => ?_) ?_
  · rw [Heap.get?_update_other _ _ (Ne.symm nb)]; exact Heap.get?_push_of_some _ q
  · rw [Heap.get?_update_self _ (Heap.get?_push_of_some _ he) rfl]; rfl
end
end OX
end PySem
set_option maxHeartbeats 4000000
namespace PySem
namespace OX
open PySem.W PySem.Calls PyProof.Rows PySem.HandSPX
open Builtin Builtin.ObjectAttr
theorem first_field {P : Program} {wd : World} {Ar : Around} {Rs : Result → Shared → Prop} {hp : Heap} {gs : Array GenState} {dn : Drawn} {t : Nat} {so : OsState} {K : Frag} {f : Str} {tk : Tok} {v : Value} {x C : Addr} {fv : Array Value} {B : String} {bm : List Value}
    (SF : StoreFacts B bm "object.__setattr__" "object") (X : K.In hp) (hx : hp.get? x = some { cls := .ref C, data := .fields fv }) (ho : excOver K C bm = true) (hd : hasDictIn K C = true) (ha : findIn K (.ref C) f = some none)
    (hq : ∀ h' tk' dx, (∀ b o, b ≠ x → hp.get? b = some o → h'.get? b = some o) → hp.objs.size ≤ dx → dx ≠ x → h'.get? x = some { cls := .ref C, dict := some dx, data := .fields fv } →
      h'.Ns1 dx (fun y => if y = f then some v else none) → Rs (.ok (.ret .none)) ⟨h', gs, dn, tk', so⟩) :
    codeAny (model P wd) Ar (.call (.builtin "object.__setattr__") ⟨[.ref x, .str f tk, v], []⟩) Rs ⟨hp, gs, dn, t, so⟩ := by
  have xs : x ≠ hp.objs.size := Nat.ne_of_lt (Heap.lt_size hx)
  obtain ⟨cd, hc, hd'⟩ := any_some hd
  have lc : Looks (model P wd) hp (classData C) cd := looks_clsIn X hc
  refine osa_openX (od := none) (r := none) SF X ⟨hx, rfl, rfl, trivial⟩ ho (by unfold takerIn; rw [ha]; rfl) fun b => ?_
  obtain ⟨nm, bs, mro, ns, qn, hd2, sn, sb, ab, col, del⟩ := cd
  dsimp only at hd'
  subst hd'
  show wpAny _ _ (storeInOwnDict (.ref x) (.ref C) (.str f tk) f v b) _ _ _
  unfold storeInOwnDict ownDictForStores
  repeat (first | with_reducible refine store_in_new ?_ ?_ | with_reducible refine wpAny_loadPart_at hx ?_ | with_reducible refine lc.at ?_ | wp_step)
  · exact ⟨_, #[], _, (Heap.get?_update_ne _ _ _ _ xs.symm).trans (Heap.get?_push_at rfl rfl), rfl, fun e he => absurd he (by simp), fun _ => rfl⟩
  · intro h' tk' hn hs
    have hx1 : (hp.push { cls := .type "dict", data := .dict #[] }).get? x = some { cls := .ref C, data := .fields fv } := Heap.get?_push_of_some _ hx
    refine hq h' tk' hp.objs.size (fun b o nb q => ?_) (Nat.le_refl _) xs.symm ((hs.2 x xs).trans (Heap.get?_update_self _ hx1 rfl)) hn
    exact (hs.2 b (Nat.ne_of_lt (Heap.lt_size q))).trans ((Heap.get?_update_ne _ _ _ _ nb).trans (Heap.get?_push_of_some _ q))
end OX
end PySem
set_option maxHeartbeats 4000000
namespace DL
open PySem PySem.Spec L2 PyProof.Rows
structure BaseX (B O newId initId : String) (bm : List Value) : Prop where
  n : OX.NewF O newId bm
  i : OX.InitF B initId bm
  s : StoreFacts B bm "object.__setattr__" "object"
  ty : typeOf (.type B) = pure (.type "type")
  boot : bootBuiltins B = some (.type B)
  nn : (Str.ofString B) ≠ "__name__"
  nd : ((Str.ofString B) == ("__debug__" : Str)) = false
  stub : Manifest.isStub B = false
  hand : PySem.W.handedIn (.builtin initId) = true
theorem bx_ValueError : BaseX "ValueError" "ValueError" "ValueError.__new__" "ValueError.__init__" [.type "ValueError", .type "Exception", .type "BaseException", .type "object"] := ⟨.of F.excBase_ValueError, .of F.excBase_ValueError, F.store_ValueError, by kernel_rfl, by decide +kernel, by decide, by decide, by decide +kernel, by decide +kernel⟩
theorem bx_KeyError : BaseX "KeyError" "LookupError" "LookupError.__new__" "KeyError.__init__" [.type "KeyError", .type "LookupError", .type "Exception", .type "BaseException", .type "object"] := ⟨OX.tail_KeyError_new, OX.tail_KeyError_init, OX.store_KeyError, by kernel_rfl, by decide +kernel, by decide, by decide, by decide +kernel, by decide +kernel⟩
structure OxC (K : PySem.W.Frag) (C : Addr) (newId : String) (bm : List Value) : Prop where
  cls : ∃ nm q N bs sn sub ab col dd k0 k1 k2 k3 k5, K.lookup C = some (excClassObj nm q C N bs bm true sn sub ab col dd k0 k1 k2 k3 k5 newId)
  sa : PySem.W.findIn K (.ref C) "__setattr__" = some (some (.builtin "object.__setattr__"))
  exC : PySem.W.subIn K (.ref C) (.type "BaseException") = some true
  tyC : PySem.W.typeIn K (.ref C) = some (.type "type")
  kC : PySem.W.keepIn K (.ref C) = true
  ov : PySem.W.excOver K C bm = true
  hd : PySem.W.hasDictIn K C = true
section
variable {X : Cx} {pins : List (Addr × Obj)} {σ : L2.St} {H : Hp} {s : Shared} {a C : Addr} {f : Str} {y : V} {u : Value} {A : Around} {B O newId initId : String} {bm : List Value}
theorem ox_store {Q : Unit → Shared → Prop} {E : Value → Shared → Prop} (b : BaseX B O newId initId bm) (T : OxC X.K C newId bm) (I : Inv X pins σ H s) (e : H a = some (exo a C none)) (hno : PySem.W.findIn X.K (.ref C) f = some none) (ry : RelV y u)
    (h : ∀ dx s', H dx = none → dx ≠ a → Inv X pins σ (upd (upd H dx (exd dx [(f, y)])) a (exo a C (some dx))) s' → Q () s') : wpAny (model X.prog X.w) A (setAttr (.ref a) f u) Q E s := by
  obtain ⟨t1, ho⟩ := exo_at I.hok e
  obtain ⟨hp, gs, dn, tk, so⟩ := s
  refine PySem.W.set_plain I.kIn (ox := { cls := .ref C, dict := none, data := .fields #[.ref t1, .none, .none, .none, .bool false, .none] }) (od := none) ⟨ho, rfl, rfl, trivial⟩ T.sa (OX.first_field b.s I.kIn ho T.ov T.hd hno fun h' tk' dx k dn' dne hx hn => ?_)
  have fresh : H dx = none := I.hok.fresh dn'
  have old : ∀ {c : Addr} {o : Obj}, hp.get? c = some o → c ≠ dx := fun {c o} q => Nat.ne_of_lt (Nat.lt_of_lt_of_le (Heap.lt_size q) dn')
  have nota : ∀ {c : Addr}, H c = none → c ≠ a := fun {c} n z => by rw [z, e] at n; cases n
  have U : Un X.fs [] H (upd (upd H dx (exd dx [(f, y)])) a (exo a C (some dx))) hp h' := {
    keep := fun c o q n _ _ => k c o (nota n) q
    slot := fun c o q n _ _ => ⟨o.slots, k c o (nota n) q⟩
    free := fun c o q n _ => by rw [upd_ne (nota n), upd_ne (old q)]; exact n
    there := fun c o q _ => by
      by_cases hc : c = a
      · subst hc; exact ⟨_, hx⟩
      · exact ⟨o, k c o hc q⟩
    tups := fun c xs q => by rw [upd_ne (at_ne e q exo_tup), upd_ne (ne_of_none q fresh)]; exact q
    frzs := fun c o v q => by rw [upd_ne (at_ne e q exo_frz), upd_ne (ne_of_none q fresh)]; exact q
    tbls := fun c ps q => ⟨#[], by rw [upd_ne (at_ne e q exo_tbl), upd_ne (ne_of_none q fresh), q]; simp⟩ }
  refine h dx _ fresh dne (I.un (t' := tk') U fun c o q => ?_)
  by_cases hc : c = a
  · subst hc
    rw [upd_same] at q
    cases q
    exact exo_ok hx
  rw [upd_ne hc] at q
  by_cases hd : c = dx
  · subst hd
    rw [upd_same] at q
    cases q
    exact exd_ok hn (relO_put (fs := []) ry fun g => True.intro)
  rw [upd_ne hd] at q
  refine (I.hok c o q).stay (fun c' v hc' z => k c' v ?_ z) (fun c' hc' => ?_) (fun c' xs hc' => ?_)
  · rcases hc' with hc' | hc'
    · rw [hc']; exact hc
    · exact at_ne e hc' exo_own
  · rw [upd_ne (at_ne e hc' exo_own), upd_ne (ne_of_none hc' fresh)]; exact hc'
  · rw [upd_ne (at_ne e hc' exo_tup), upd_ne (ne_of_none hc' fresh)]; exact hc'
theorem ox_init {us : List Value} {Q : Value → Shared → Prop} {E : Value → Shared → Prop} (b : BaseX B O newId initId bm) (T : OxC X.K C newId bm) (I : Inv X pins σ H s) (e : H a = some (exo a C none)) (hl : us.length ≤ sizeLine) (h : ∀ s', Inv X pins σ H s' → Q .none s') :
    wpAny (model X.prog X.w) A (call (.builtin initId) (.ref a :: us)) Q E s := by
  obtain ⟨nm, q, N, bs, sn, sub, ab, col, dd, k0, k1, k2, k3, k5, hC⟩ := T.cls
  obtain ⟨t1, ho⟩ := exo_at I.hok e
  obtain ⟨hp, gs, dn, tk, so⟩ := s
  refine wpAny_call (OX.base_init b.i (I.kIn _ _ hC) ho hl fun h' t2 k hx => ?_)
  have J := I.write (t' := tk) (x := a) (e := a) (o := exo a C none) (by rw [e]; exact True.intro) (.inl rfl) k ⟨_, hx⟩ (exo_ok hx)
  rw [show upd H a (exo a C none) = H from by
    funext c
    by_cases hc : c = a
    · rw [hc, upd_same, e]
    · rw [upd_ne hc]] at J
  exact h _ J
end
def tBI (C : Addr) (ta : TA) : TE := fun σ H Q => ta σ H fun vs H1 => ∃ (a : Addr) (ws : List V), vs = .ref a :: ws ∧ ws.length ≤ 1000 ∧ H1 a = some (exo a C none) ∧ Q .non H1
def tOS (C : Addr) (f : Str) (to te : TE) : TS := fun D σ H => te σ H fun y H1 => to σ H1 fun x H2 => ∃ a : Addr, x = .ref a ∧ H2 a = some (exo a C none) ∧ ∀ dx, H2 dx = none → dx ≠ a → D.nx σ (upd (upd H2 dx (exd dx [(f, y)])) a (exo a C (some dx)))
section
variable {X : Cx} {o e : Expr} {es : List Expr} {to te : TE} {ta : TA} {f : Str} {p p' p1 p2 pos : Pos} {C : Addr} {B O newId initId : String} {bm : List Value}
theorem pe_binit {pl : Sem Bool} (b : BaseX B O newId initId bm) (T : OxC X.K C newId bm) (hg : Gl X B) (hm : X.mg B = none) (vV : PySem.W.findCls X.K (.type B) (.type "type") "__init__" = some (.val (.builtin initId))) (ha : PA X (e :: es) ta)
    (hc : eval (.Call (.Attribute (.Name B p1) "__init__" p2) (e :: es) [] pos) X.env = (do
      let ov ← eval (.Name B p1) X.env
      standAt p2.atName
      let (f, first) ← holding [ov] (getMethod ov "__init__" pl)
      callWith pos f first (backTo pos (starEach (e :: es) X.env)) (backToKw pos (keywordEach [] X.env))) := by rfl)
    (he : starEach (e :: es) X.env = (false, eval e X.env) :: starEach es X.env := by rfl) (hpl : (backTo pos (starEach es X.env)).any (·.1) = false := by rfl) :
    PE X (.Call (.Attribute (.Name B p1) "__init__" p2) (e :: es) [] pos) (tBI C ta) := by
  refine ⟨fun pins s σ H Q I h => ?_⟩
  refine PySem.W.methodCall_KW (ld_blt I hg hm b.boot ?_ b.nn b.nd) hc
  obtain ⟨m, fr⟩ := I.fr
  refine PySem.W.method_type fr I.ok.mod.kin b.ty b.stub vV b.hand ?_
  show wpAny _ _ (callWith pos (Value.builtin initId) [] (backTo pos (starEach (e :: es) X.env)) []) _ _ _
  refine PyProof.Rows.callWith_method1 (thn (ha.run pos pins _ σ H _ (I.tok _) h) fun us s1 ⟨vs, H1, I1, r1, a, ws, ev, hl, ea, q⟩ => ?_) he hpl
  subst ev
  cases r1 with
  | @cons _ u0 _ ur ra rr =>
    obtain rfl : u0 = Value.ref a := ra
    exact ox_init b T I1 ea (by rw [← Paired.length rr, sizeLine_eq]; omega) fun s' J => ⟨.non, H1, J, rfl, q⟩
theorem ps_oset (b : BaseX B O newId initId bm) (T : OxC X.K C newId bm) (hno : PySem.W.findIn X.K (.ref C) f = some none) (ho : PE X o to) (he : PE X e te) (hs : swapsWith e (some (.Attribute o f p')) pos.line X.env = pure false := by rfl) : PS X (.Assign [.Attribute o f p'] e pos) (tOS C f to te) := by
  refine ⟨fun pins s σ H D I h => ?_⟩
  refine plainObj_wpAny_Assign_Attribute (thn (he.run pins s σ H _ I h) fun v s1 ⟨y, H1, I1, r1, q1⟩ => thn (ho.run pins s1 σ H1 _ I1 q1) fun u s2 ⟨x, H2, I2, r2, a, ex, ea, q⟩ => ?_) hs
  subst ex
  obtain rfl : u = Value.ref a := r2
  exact ox_store b T I2 ea hno r1 fun dx s' n ne J => ⟨σ, _, J, q dx n ne⟩
def spI (C : Addr) (f : Str) : Sp := fun vs H Q _ => ∃ (a : Addr) (y : V), vs = [.ref a, y] ∧ H a = some (exo a C none) ∧ ∀ dx, H dx = none → dx ≠ a → Q .non (upd (upd H dx (exd dx [(f, y)])) a (exo a C (some dx)))
end
theorem exv_ok {P : Program} {w : World} {H : Hp} {h : Heap} {a C d : Addr} {oe : Obj} {vs : Array Value} (he : h.get? a = some oe) (hz : Zc (.ref C) (some d) oe) (hd : oe.data = .fields vs) : ObjOk P w H h a (exv a C d) :=
  ⟨⟨oe, vs, he, hz, hd⟩, ⟨_, he⟩, fun h1 h2 z k => by
    obtain ⟨o, v, q, q2⟩ := z
    exact ⟨o, v, k _ q, q2⟩⟩
theorem exv_at {P : Program} {w : World} {H : Hp} {h : Heap} {a C d : Addr} (hok : HOk P w H h) (he : H a = some (exv a C d)) : ∃ (oe : Obj) (vs : Array Value), h.get? a = some oe ∧ Zc (.ref C) (some d) oe ∧ oe.data = .fields vs := by
  have x : ObjOk P w H h a (.ext fun h => ∃ (oe : Obj) (vs : Array Value), h.get? a = some oe ∧ Zc (.ref C) (some d) oe ∧ oe.data = .fields vs) := hok a _ he
  exact x.1
section
variable {X : Cx} {x xi f : Str} {C fI : Addr} {k : Nat} {fd : FuncData} {e : Expr} {ta : TA} {p pos : Pos} {B O newId initId : String} {bm : List Value}
def Made (X : Cx) (pins : List (Addr × Obj)) (σ : L2.St) (C : Addr) (f : Str) (y : V) (H1 : Hp) (a : Addr) (hp : Heap) (s' : Shared) : Prop :=
  ∃ (d : Addr) (hp2 : Heap), (∃ s2 : Shared, s2.heap = hp2 ∧ s'.os = s2.os ∧ Inv X pins σ (upd H1 a (exo a C none)) s2) ∧ hp.objs.size ≤ a ∧ d ≠ a ∧ H1 d = none ∧ (∀ b o, hp.get? b = some o → hp2.get? b = some o) ∧ Un (frs X.stack) [] (upd H1 a (exo a C none)) (upd (upd (upd H1 a (exo a C none)) d (exd d [(f, y)])) a (exo a C (some d))) hp2 s'.heap ∧
    HOk X.prog X.w (upd (upd (upd H1 a (exo a C none)) d (exd d [(f, y)])) a (exo a C (some d))) s'.heap ∧ AllBare s'.gens
theorem ox_made (b : BaseX B O newId initId bm) (T : OxC X.K C newId bm) (iC : PySem.W.findIn X.K (.ref C) "__init__" = some (some (.ref fI))) (tI : PySem.W.typeIn X.K (.ref fI) = some (.type "function"))
    (F1 : FnOk X.prog X.w X.K X.mg X.base (L2.CX X.prog X.w) k fI fd ["self", xi] (spI C f)) (hr : Room (k + 1) X.A) (hb : Binds X.K fd ["self", xi] []) (hg : Gl X x) (hm : X.mg x = some (.ref C)) (he : PA X [e] ta)
    {pins : List (Addr × Obj)} {s : Shared} {σ : L2.St} {H : Hp} {Q : V → Hp → Prop} {R : Value → Shared → Prop} (I : Inv X pins σ H s) (h : ta σ H fun vs H1 => ∃ y, vs = [y] ∧ Q y H1)
    (fin : ∀ (y : V) (H1 : Hp) (s1 : Shared) (a : Addr) (s' : Shared), Inv X pins σ H1 s1 → Q y H1 → s'.os = s1.os → Made X pins σ C f y H1 a s1.heap s' → R (.ref a) s')
    (hdb : (x == ("__debug__" : Str)) = false := by decide) (hst : starEach [e] X.env = (false, eval e X.env) :: starEach [] X.env := by rfl) (hpl : (backTo pos (starEach [] X.env)).any (·.1) = false := by rfl) :
    wpAny (model X.prog X.w) X.A (eval (.Call (.Name x p) [e] [] pos) X.env) R X.xe s := by
  obtain ⟨nm, q, N, bs, sn, sub, ab, col, dd, k0, k1, k2, k3, k5, hC⟩ := T.cls
  refine wpAny_Call_Name_kw (ld_glob I hg hm ?_ hdb)
  refine PySem.W.callWith_K (h₀ := X.base) I.ok.mod.kin T.kC (thn (he.run pos pins s σ H (fun vs H1 => ∃ y, vs = [y] ∧ Q y H1) I h) fun us s1 ⟨vs, H1, I1, r1, y, ey, q1⟩ => ⟨I1.kIn, ?_⟩) hst hpl
  subst ey
  show wpAny _ _ (call (.ref C) us) _ _ _
  obtain ⟨hp, gs, dn, tk, so⟩ := s1
  have hn : H1 (hp.objs.size + 1) = none := I1.hok.fresh (Nat.le_succ _)
  have kk : ∀ c o, hp.get? c = some o → ((hp.push (PySem.W.kdv_tup us)).push (PySem.HandSPX.excO C hp.objs.size)).get? c = some o := fun c o z => Heap.get?_push_of_some _ (Heap.get?_push_of_some _ z)
  have I2 : Inv X pins σ (upd H1 (hp.objs.size + 1) (exo (hp.objs.size + 1) C none)) ⟨(hp.push (PySem.W.kdv_tup us)).push (PySem.HandSPX.excO C hp.objs.size), gs, dn, tk, so⟩ := I1.laid (t' := tk) (a := hp.objs.size + 1) (o := exo (hp.objs.size + 1) C none) (h' := (hp.push (PySem.W.kdv_tup us)).push (PySem.HandSPX.excO C hp.objs.size)) kk (Nat.le_succ _) (exo_ok (by heap_get))
  have r2 : Vals [V.ref (hp.objs.size + 1), y] (Value.ref (hp.objs.size + 1) :: us) := .cons rfl r1
  have hlen : us.length = 1 := (Paired.length r1).symm
  refine wpAny_call (OX.class_called b.n (I1.kIn _ _ hC) (PySem.W.looks_findIn I1.kIn iC) (fun self => PySem.W.bind_fn I1.kIn self tI) (by rw [hlen]; decide)
    (codeAny_mono (F1.run _ X.stack _ _ ⟨Value.ref (hp.objs.size + 1) :: us, []⟩ (Value.ref (hp.objs.size + 1) :: us) _ (fun v H2 => v = .non ∧ ∃ d, d ≠ hp.objs.size + 1 ∧ H1 d = none ∧ H2 = upd (upd (upd H1 (hp.objs.size + 1) (exo (hp.objs.size + 1) C none)) d (exd d [(f, y)])) (hp.objs.size + 1) (exo (hp.objs.size + 1) C (some d))) (fun _ _ _ => False) (hr.make C us []) (I2.env0.make C us []) ?_ r2 ?_) fun r s' hq' => ?_))
  · have z := hb _ (Value.ref (hp.objs.size + 1) :: us) I2.kIn (by simp [hlen])
    simpa using z
  · refine ⟨hp.objs.size + 1, y, rfl, upd_same, fun dx n ne => ⟨rfl, dx, ne, ?_, rfl⟩⟩
    rw [upd_ne ne] at n
    exact n
  · cases r with
    | error er => exact (cx_none hq').elim
    | ok fl =>
      cases fl with
      | ret u =>
        obtain ⟨v, H2, os2, bare2, un2, hok2, rv, ev, d, hda, hd1, e2⟩ := hq'
        subst ev
        subst e2
        exact ⟨rv, fin y H1 _ _ s' I1 q1 os2 ⟨d, _, ⟨_, rfl, os2, I2⟩, Nat.le_succ _, hda, hd1, kk, un2, hok2, bare2⟩⟩
      | next => exact False.elim hq'
      | brk => exact False.elim hq'
      | cont => exact False.elim hq'
def tMkX (C : Addr) (f : Str) (ta : TA) : L2.St → Hp → XK → Prop := fun σ H Q => ta σ H fun vs H1 => ∃ y, vs = [y] ∧ ∀ d, H1 d = none → Q (.ref C) (some d) (upd H1 d (.xd [(f, y)]))
theorem pmk_ox (b : BaseX B O newId initId bm) (T : OxC X.K C newId bm) (iC : PySem.W.findIn X.K (.ref C) "__init__" = some (some (.ref fI))) (tI : PySem.W.typeIn X.K (.ref fI) = some (.type "function"))
    (F1 : FnOk X.prog X.w X.K X.mg X.base (L2.CX X.prog X.w) k fI fd ["self", xi] (spI C f)) (hr : Room (k + 1) X.A) (hb : Binds X.K fd ["self", xi] []) (hg : Gl X x) (hm : X.mg x = some (.ref C)) (he : PA X [e] ta)
    (hdb : (x == ("__debug__" : Str)) = false := by decide) (hst : starEach [e] X.env = (false, eval e X.env) :: starEach [] X.env := by rfl) (hpl : (backTo pos (starEach [] X.env)).any (·.1) = false := by rfl) :
    PMk X (.Call (.Name x p) [e] [] pos) (tMkX C f ta) := by
  intro pins s σ H Q I h
  refine ox_made b T iC tI F1 hr hb hg hm he I h (fun y H1 s1 a s' I1 q ho hM => ?_) hdb hst hpl
  obtain ⟨d, hp2, ⟨s2, e2, os2, I2⟩, ha, hda, hd1, kk, un, hok, bare⟩ := hM
  obtain ⟨hp, gs, dn, tk, so⟩ := s1
  obtain ⟨h2, g2, d2, t2, o2⟩ := s'
  have hn : H1 a = none := I1.hok.fresh ha
  refine mk_end (raises_own T.exC T.tyC) I1 ha kk un hok ho bare upd_same (by rw [upd_ne hda, upd_same]) hd1 ?_
  rw [show upd (del (upd (upd (upd H1 a (exo a C none)) d (exd d [(f, y)])) a (exo a C (some d))) a) d (.xd [(f, y)]) = upd H1 d (.xd [(f, y)]) from ?_]
  · exact q d hd1
  · funext c
    by_cases hc : c = d
    · rw [hc, upd_same, upd_same]
    · rw [upd_ne hc, upd_ne hc]
      by_cases hca : c = a
      · rw [hca, del_same, hn]
      · rw [del_ne hca, upd_ne hca, upd_ne hc, upd_ne hca]
end
end DL
set_option maxHeartbeats 4000000
namespace DL
open PySem PySem.Spec L2 PyProof.Rows
section
variable {X : Cx} {Wx : WX} {e : Expr} {pos p : Pos}
theorem exv_inst {pins : List (Addr × Obj)} {σ : L2.St} {H : Hp} {s : Shared} {a C d : Addr} {fs : List (Str × V)} (I : Inv X pins σ H s) (ea : H a = some (exv a C d)) (ed : H d = some (.xd fs)) :
    ∃ (oe od : Obj), PySem.W.InstAt s.heap a oe C (some od) ∧ ∀ (f : Str) (v : V), fs.lookup f = some v → ∃ u, RelV v u ∧ PySem.W.lookIn f od = some (some u) := by
  obtain ⟨oe, vs, ho, hz, hd⟩ := exv_at I.hok ea
  have hx : ObjOk X.prog X.w H s.heap d (.xd fs) := I.hok d _ ed
  obtain ⟨mA, hns, hr⟩ := hx
  obtain ⟨od, hod, hl⟩ := lookIn_ns hns
  refine ⟨oe, od, ⟨ho, hz.1, by unfold PySem.W.notCls; rw [hd] <;> rfl, by rw [hz.2]; exact hod⟩, fun f v l => ?_⟩
  obtain ⟨u, hu, ru⟩ := RelO.some_of (v := v) (o := mA f) (by rw [← l]; exact hr f)
  exact ⟨u, ru, by rw [hl, hu]⟩
def tFld (K : PySem.W.Frag) (f : Str) (te : TE) : TE := fun σ H Q => te σ H fun x H1 => ∃ (a C d : Addr) (fs : List (Str × V)) (v : V), x = .ref a ∧ H1 a = some (exv a C d) ∧ H1 d = some (.xd fs) ∧ fs.lookup f = some v ∧ XfC K C ∧ PySem.W.findIn K (.ref C) f = some none ∧ Q v H1
theorem pe_fld {te : TE} {f : Str} (he : PE X e te) (hb : attributeBase e f X.env (eval e X.env) = eval e X.env := by rfl) : PE X (.Attribute e f pos) (tFld X.K f te) := by
  refine ⟨fun pins s σ H Q I h => ?_⟩
  refine attr_of hb (thn (he.run pins s σ H _ I h) fun u s1 ⟨x, H1, I1, rx, a, C, d, fs, v, ex, ea, ed, l, T, hno, q⟩ => ?_)
  subst ex
  obtain rfl : u = Value.ref a := rx
  obtain ⟨oe, od, J, look⟩ := exv_inst I1 ea ed
  obtain ⟨u, ru, hu⟩ := look f v l
  exact HandSPX.exc_get I1.kIn J T.ga T.gg T.exC (PySem.W.findObj_own T.hdC hno rfl hu) (handed_of ru) ⟨v, H1, I1.tok _, ru, q⟩
def fFld (cs : List Str) (f : Str) (fe : FE) : FE := fun d S => (fe d S).bind fun u S1 => match u with
  | .exc c g v => if cs.contains c && decide (g = f) then .ok v S1 else .bad
  | _ => .bad
theorem se_fld {cs : List Str} {f : Str} {fe : FE} (he : SimE X Wx e fe) (hc : ∀ c ∈ cs, ∀ C, X.mg c = some (.ref C) → XfC X.K C ∧ PySem.W.findIn X.K (.ref C) f = some none) (hb : attributeBase e f X.env (eval e X.env) = eval e X.env := by rfl) : SimE X Wx (.Attribute e f pos) (fFld cs f fe) := by
  obtain ⟨t, pt, he⟩ := he.out
  refine SimE.mk (pe_fld pt hb) (fun w d σ Q s e h => ?_)
  refine he w d σ _ s e ((Pst.of_bind h).mono (fun u S1 h1 w1 v eS st s1 r => ?_) fun _ _ q => q)
  subst eS
  cases r with
  | @exc a d C v c g u ha hd hm rv =>
    have h9 : Pst (if cs.contains c && decide (g = f) then .ok u w1.S else .bad) (OkE X w Q) (XPost X Wx σ w) := h1
    clear h1
    cases hb : cs.contains c && decide (g = f) with
    | false => rw [hb] at h9; exact h9.elim
    | true =>
      rw [hb, if_pos rfl] at h9
      rw [Bool.and_eq_true] at hb
      obtain ⟨h2, h3⟩ := hb
      have h3 := of_decide_eq_true h3
      subst h3
      obtain ⟨T, hno⟩ := hc c (List.contains_iff_mem.mp h2) C hm
      exact ⟨a, C, d, _, v, rfl, ha, hd, by simp [List.lookup], T, hno, h9 w1 v rfl st s1 rv⟩
  | _ => exact h1.elim
def rIsX (K : PySem.W.Frag) : List V → Hp → VK → Prop := fun xs H Q => ∃ (a C d : Addr) (fs : List (Str × V)) (c : V) (cv : Value) (b : Bool), xs = [.ref a, c] ∧ H a = some (exv a C d) ∧ H d = some (.xd fs) ∧ ExcC K C ∧ (∀ u, RelV c u → u = cv) ∧ PySem.W.kitOne K (.ref C) cv = some b ∧ Q (.bl b) H
theorem call_isX : CallR X (.builtin "isinstance") (rIsX X.K) := by
  intro pins s σ H xs us Q I r h
  obtain ⟨a, C, d, fs, c, cv, b, rfl, ea, ed, T, hcv, hk, q⟩ := h
  cases r with
  | cons rx rr =>
    cases rr with
    | cons rt rr =>
      cases rr
      cases rx
      obtain rfl := hcv _ rt
      obtain ⟨oe, od, J, _⟩ := exv_inst I ea ed
      obtain ⟨cd, hcd, _⟩ := PySem.W.any_some T.hd
      exact PySem.W.kia_one (PySem.W.kitx_exc (by rw [hcd]; rfl) T.hg T.hk T.hs T.ha T.hn T.ht T.hm) I.kIn J hk (fun z => nomatch z) fun tk => ⟨.bl b, H, I.kept (t' := tk) fun _ _ z => z, rfl, q⟩
abbrev IsTab := List ((Str × (Str ⊕ String)) × Bool)
def lookI : IsTab → Str → Str ⊕ String → Option Bool
  | [], _, _ => none
  | ((c, k), b) :: r, x, y => if c = x ∧ k = y then some b else lookI r x y
def askI : U → Option (Str ⊕ String)
  | .cl c => some (.inl c)
  | .ty n => some (.inr n)
  | _ => none
def isxC (tab : IsTab) (us : List U) (S : Sto) : R U := match us with
  | [.exc c _ _, y] => match (askI y).bind (lookI tab c) with
    | some b => .ok (.bl b) S
    | none => .bad
  | us => isiC us S
structure IsOk (K : PySem.W.Frag) (mg : Str → Option Value) (tab : IsTab) : Prop where
  own : ∀ c c2 b, lookI tab c (.inl c2) = some b → ∀ C C2, mg c = some (.ref C) → mg c2 = some (.ref C2) → ExcC K C ∧ PySem.W.kitOne K (.ref C) (.ref C2) = some b
  blt : ∀ c n b, lookI tab c (.inr n) = some b → ∀ C, mg c = some (.ref C) → ExcC K C ∧ PySem.W.kitOne K (.ref C) (.type n) = some b
theorem cs_isx {tab : IsTab} (T : IsOk X.K X.mg tab) : CallSim X (.builtin "isinstance") (isxC tab) := by
  obtain ⟨r, hr, hn, hs⟩ := cs_isi (X := X)
  refine ⟨_, call_isX.or hr, fun us S => ?_, fun w us vs Q s rs h => ?_⟩
  · unfold isxC
    split
    · split <;> trivial
    · exact hn _ S
  · unfold isxC at h
    split at h
    · rename_i c g v y
      split at h
      · rename_i b hb
        left
        obtain ⟨k, hk, hl⟩ := Option.bind_eq_some_iff.mp hb
        cases rs with
        | cons r1 rs =>
          cases rs with
          | cons r2 rs =>
            cases rs
            cases r1 with
            | @exc a d C _ _ _ _ ha hd hm rv =>
              cases r2 with
              | @cl C2 c2 hm2 =>
                cases hk
                obtain ⟨E, q⟩ := T.own c c2 b hl C C2 hm hm2
                exact ⟨a, C, d, _, _, .ref C2, b, rfl, ha, hd, E, fun u z => z, q, OkE.here h s (.bl b)⟩
              | ty n =>
                cases hk
                obtain ⟨E, q⟩ := T.blt c n b hl C hm
                exact ⟨a, C, d, _, _, .type n, b, rfl, ha, hd, E, fun u z => z, q, OkE.here h s (.bl b)⟩
              | _ => cases hk
      · exact h.elim
    · right
      exact hs w _ vs Q s rs h
theorem se_cl {x : Str} {C : Addr} (hg : Gl X x) (hm : X.mg x = some (.ref C)) (hd : (x == ("__debug__" : Str)) = false := by decide) : SimE X Wx (.Name x pos) (fC (.cl x)) :=
  se_glob hg hm (v := .ref C) rfl (fun w => .cl hm) hd
variable {x xi f : Str} {C fI : Addr} {k : Nat} {fd : FuncData} {B O newId initId : String} {bm : List Value}
def fMkx (c f : Str) (fa : FA) : FE := fun d S => (fa d S).bind fun us S1 => match us with
  | [u] => .ok (.exc c f u) S1
  | _ => .bad
def fRaise (c f : Str) (fa : FA) : FS := fun d S => toS d (fa d S) fun us S1 => match us with
  | [u] => .ok (.ex ⟨c, f, u⟩ d) S1
  | _ => .bad
structure ExcOk (P : Program) (w : World) (K : PySem.W.Frag) (mg : Str → Option Value) (base : Heap) (k : Nat) (x f : Str) : Prop where
  ex : ∃ (C fI : Addr) (xi : Str) (fd : FuncData) (B O newId initId : String) (bm : List Value), BaseX B O newId initId bm ∧ OxC K C newId bm ∧ PySem.W.findIn K (.ref C) "__init__" = some (some (.ref fI)) ∧ PySem.W.typeIn K (.ref fI) = some (.type "function") ∧
    FnOk P w K mg base (L2.CX P w) k fI fd ["self", xi] (spI C f) ∧ Binds K fd ["self", xi] [] ∧ mg x = some (.ref C)
theorem ss_raise {fa : FA} {rp : Pos} (T : ExcOk X.prog X.w X.K X.mg X.base k x f) (hr : Room (k + 1) X.A) (hcalm : X.calm = true) (tk : Takes X Wx) (hg : Gl X x) (ha : SimA X Wx [e] fa)
    (hdb : (x == ("__debug__" : Str)) = false := by decide) (hst : starEach [e] X.env = (false, eval e X.env) :: starEach [] X.env := by rfl) (hpl : (backTo pos (starEach [] X.env)).any (·.1) = false := by rfl) : SimS X Wx (.Raise (some (.Call (.Name x p) [e] [] pos)) none rp) (fRaise x f fa) := by
  obtain ⟨C, fI, xi, fd, B, O, newId, initId, bm, b, T1, iC, tI, F1, hb, hm⟩ := T.ex
  obtain ⟨ta, pa, ha⟩ := ha.out
  refine SimS.mk (ps_raise hcalm tk (pmk_ox b T1 iC tI F1 hr hb hg hm pa hdb hst hpl)) (fun w d σ D s e h => ?_)
  refine ha w d σ _ s e ((toS_post s e h).mono (fun us S1 h1 w1 vs eS st s1 rs => ?_) fun _ _ q => q)
  subst eS
  cases rs with
  | nil => exact h1.elim
  | cons r rs =>
    cases rs with
    | cons _ _ => exact h1.elim
    | nil =>
      rename_i u v
      refine ⟨v, rfl, fun dd nd => ?_⟩
      have st1 := Stp.new s1 (o := .xd [(f, v)]) nd
      have s2 : SR (KMof X) (w1.new dd (.xd [(f, v)])) := s1.new nd
      exact h1 (w1.new dd (.xd [(f, v)])) rfl (st.trans st1) s2 σ ((e.ext st.x s).ext st1.x s1) (.ref C) (some dd) ⟨hm, dd, v, rfl, upd_same, r.ext st1.x s1⟩
end
end DL
set_option maxHeartbeats 4000000
namespace DL
open PySem PySem.Spec L2 PyProof.Rows
section
variable {X : Cx} {pins : List (Addr × Obj)} {σ : L2.St} {H : Hp} {s : Shared}
theorem adopt (I : Inv X pins σ H s) {a C d : Addr} {oe : Obj} {vs : Array Value} (na : H a = none) (h0 : X.s_0.heap.get? a = none) (ha : s.heap.get? a = some oe) (hd : oe.data = .fields vs) (hz : Zc (.ref C) (some d) oe) (nL : a ≠ X.env.locals) (np : ∀ q ∈ X.pn ++ pins, q.1 ≠ a) :
    Inv X pins σ (upd H a (exv a C d)) s := by
  have old : ∀ {b : Addr} {o : Obj}, X.s_0.heap.get? b = some o → b ≠ a := fun {b o} q z => by rw [z, h0] at q; cases q
  have tr : ∀ {b : Addr} {o : HO}, H b = some o → b ≠ a := fun {b o} q z => by rw [z, na] at q; cases q
  refine ⟨I.ok, I.os, I.bare, ⟨I.base.keep, I.base.slot, fun b o q n x => ?_, I.base.there, fun b xs q => ?_, fun b o u q => ?_, fun b ps q => ?_⟩, I.loc, I.cell, ?_, fun x c hc => ?_, fun q hq => ?_, fun b o q => ?_, I.len⟩
  · rw [upd_ne (old q)]; exact I.base.free b o q n x
  · have z := I.base.tups b xs q; rw [upd_ne (tr z)]; exact z
  · have z := I.base.frzs b o u q; rw [upd_ne (tr z)]; exact z
  · obtain ⟨m, z⟩ := I.base.tbls b ps q; exact ⟨m, by rw [upd_ne (tr z)]; exact z⟩
  · rw [upd_ne (Ne.symm nL)]; exact I.free
  · have hca : c ≠ a := fun z => by
      obtain ⟨v, hv⟩ := I.cell x c hc
      rw [z] at hv
      obtain ⟨oc, ho, hdc⟩ := hv
      rw [ha] at ho
      cases ho
      rw [hd] at hdc
      cases hdc
    rw [upd_ne hca]; exact I.freeC x c hc
  · obtain ⟨h1, h2, h3⟩ := I.pin q hq
    exact ⟨h1, by rw [upd_ne (np q hq)]; exact h2, h3⟩
  · by_cases hb : b = a
    · subst hb
      rw [upd_same] at q
      cases q
      exact exv_ok ha hz hd
    · rw [upd_ne hb] at q
      exact (I.hok b o q).stay (fun c u _ z => z) (fun c hc => by rw [upd_ne (tr hc)]; exact hc) (fun c xs hc => by rw [upd_ne (tr hc)]; exact hc)
theorem suite0 (I : Inv X pins σ H s) (a : Addr) : Inv (X.suite a (X.pn ++ pins)) [] σ H s :=
  ⟨I.ok.suite _ _, I.os, I.bare, I.base, I.loc, I.cell, I.free, I.freeC, fun q hq => I.pin q (by rw [List.append_nil] at hq; exact hq), I.hok, I.len⟩
theorem unsuite0 {a : Addr} {pn' : List (Addr × Obj)} (I : Inv (X.suite a (X.pn ++ pins)) pn' σ H s) (ok : X.Ok) : Inv X pins σ H s :=
  ⟨ok, I.os, I.bare, I.base, I.loc, I.cell, I.free, I.freeC, fun q hq => I.pin q (List.mem_append_left _ hq), I.hok, I.len⟩
end
section
variable {X : Cx} {x n : Str} {c : Value} {i : Nat} {body suite : List Stmt} {s0 : Stmt} {np pos pos' : Pos} {tb : WX → TS} {ts : Addr → TS} {Wout : WX}
end
def fTry (m : Str → Option Bool) (i : Nat) (fb fs : FS) : FS := fun d S => match fb d S with
  | .ok (.ex y d1) S1 => match m y.cls with
    | some true => match fs (d1.set i (some (.exc y.cls y.fld y.arg))) S1 with
      | .ok (.nx d2) S2 => .ok (.nx (d2.set i none)) S2
      | .ok (.rt u) S2 => .ok (.rt u) S2
      | .ok (.bk d2) S2 => .ok (.bk (d2.set i none)) S2
      | .ok (.ct d2) S2 => .ok (.ct (d2.set i none)) S2
      | _ => .bad
    | some false => .ok (.ex y d1) S1
    | none => .bad
  | r => r
section
variable {X : Cx} {Wx : WX} {x n : Str} {c : Value} {i : Nat} {body suite : List Stmt} {s0 : Stmt} {np pos pos' : Pos} {fb fs : FS} {m : Str → Option Bool}
end
end DL
set_option maxHeartbeats 4000000
namespace DL
open PySem PySem.Spec PyProof.Rows L2
def txtOf (e : Int × Value) : Str := match e.2 with
  | .str k _ => k
  | _ => Str.empty
def TxtE (P : Program) (w : World) (e : Int × Value) : Prop := ∃ k tk, e.2 = Value.str k tk ∧ e.1 = (strKind P w).hash k
def SetS (P : Program) (w : World) (h : Heap) (a : Addr) (S : Str → Bool) (n : Nat) : Prop :=
  ∃ o es ep t, h.get? a = some o ∧ o.ExactSet ∧ o.data = .set es ep t ∧ (∀ e ∈ es.toList, TxtE P w e) ∧ (es.toList.map txtOf).Nodup ∧ (∀ k, S k = true ↔ k ∈ es.toList.map txtOf) ∧
    es.size < scanBound ∧ t.fits es.size = true ∧ es.size = n ∧ Ris t.place.toList ∧ (w.params.followText "set-order" = true ∨ t.led = true)
section
variable {P : Program} {w : World} {h h' : Heap} {a : Addr} {S : Str → Bool} {n : Nat}
theorem SetS.at (R : SetS P w h a S n) (k : ∀ o, h.get? a = some o → h'.get? a = some o) : SetS P w h' a S n := by
  obtain ⟨o, es, ep, t, ho, r⟩ := R
  exact ⟨o, es, ep, t, k o ho, r⟩
end
section
variable {P : Program} {w : World} {A : Around} {E : Value → Shared → Prop} {s : Shared} {a : Addr} {S : Str → Bool} {n : Nat}
end
end DL
set_option maxHeartbeats 4000000
namespace DL
open PySem PySem.Spec PyProof.Rows L2
theorem SetS.congr {P : Program} {w : World} {h : Heap} {a : Addr} {S S' : Str → Bool} {n : Nat} (R : SetS P w h a S n) (e : ∀ k, S' k = S k) : SetS P w h a S' n := (funext e : S' = S) ▸ R
section
variable {P : Program} {w : World} {A : Around} {E : Value → Shared → Prop} {s : Shared}
end
end DL
set_option maxHeartbeats 4000000
namespace DL
open PySem PySem.Spec PyProof.Rows L2
section
variable {X : Cx}
end
end DL
namespace DL
open PySem PySem.Spec L2
section
variable {X : Cx}
end
end DL
namespace DL
open PySem PySem.Spec L2
section
variable {X : Cx} {Wx : WX}
def CallSimD (X : Cx) (f : Value) (g : List U → Sto → R (List Key × List U)) : Prop := ∃ r, CallR X f r ∧
  ∀ (w : Wd) (us : List U) (vs : List V) (Q : VK) (E : Exc → Sto → Prop), SR (KMof X) w → VRs (KMof X) w us vs → Pst (g us w.S) (OkD X w Q) E → (∀ x S, ¬ E x S) → r vs w.H Q
theorem sd_callTy {x : Str} {T : String} {p pos : Pos} {e : Expr} {es : List Expr} {fa : FA} {g : List U → Sto → R (List Key × List U)} (hx : ∀ us S y S', g us S ≠ .exc y S') (hc : CallSimD X (.type T) g) (hg : Gl X x) (hm : X.mg x = none) (hv : bootBuiltins x = some (.type T)) (ha : SimA X Wx (e :: es) fa) (hn : x ≠ "__name__" := by decide) (hdb : (x == ("__debug__" : Str)) = false := by decide)
    (he : starEach (e :: es) X.env = (false, eval e X.env) :: starEach es X.env := by rfl) (hpl : (backTo pos (starEach es X.env)).any (·.1) = false := by rfl) : SimD X Wx (.Call (.Name x p) (e :: es) [] pos) (fA g fa) := by
  obtain ⟨r, hc, hr⟩ := hc
  obtain ⟨ta, pa, ha⟩ := ha.out
  refine SimD.mk (pe_callTy hc hg hm hv pa hn hdb he hpl) (fun w d σ Q s e h => ?_)
  refine ha w d σ _ s e ((Pst.of_bind h).mono (fun us S1 h1 w1 vs eS st s1 rs => ?_) fun _ _ q => q)
  subst eS
  refine hr w1 us vs Q (fun _ _ => False) s1 rs ?_ (fun _ _ z => z)
  cases hq : g us w1.S with
  | ok a S => rw [hq] at h1; exact OkD.up h1 st
  | exc y S => exact absurd hq (hx _ _ _ _)
  | bad => rw [hq] at h1; exact h1.elim
def pairOf : U → Option (Key × U)
  | .tup [k, v] => (keyU k).map fun k => (k, v)
  | _ => none
def pairsOf : List U → Option (List (Key × U))
  | [] => some []
  | u :: us => match pairOf u, pairsOf us with
    | some p, some ps => some (p :: ps)
    | _, _ => none
def dictC (us : List U) (S : Sto) : R (List Key × List U) := match us with
  | [u] => match dictOf u S with
    | some p => .ok p S
    | none => match (DL.listOf u S).bind pairsOf with
      | some ps => .ok (mergeU ([], []) ps) S
      | none => .bad
  | _ => .bad
theorem dictC_noX (us : List U) (S : Sto) (y : Exc) (S' : Sto) : dictC us S ≠ .exc y S' := by
  unfold dictC
  split
  · split
    · intro h; cases h
    · split <;> (intro h; cases h)
  · intro h; cases h
theorem pairs_rel {w : Wd} : ∀ {us : List U} {vs : List V} {ps : List (Key × U)}, VRs (KMof X) w us vs → pairsOf us = some ps → ∃ (as : List Addr) (xs : List V), vs = as.map V.ref ∧ Paired (fun p kv => SqT X.K w.H p [kV kv.1, kv.2]) as ((ps.map (·.1)).zip xs) ∧ VRs (KMof X) w (ps.map (·.2)) xs
  | _, _, _, .nil, h => by cases h; exact ⟨[], [], rfl, .nil, .nil⟩
  | _, _, _, .cons (u := u) (us := us) r rs, h => by
    unfold pairsOf at h
    cases hp : pairOf u with
    | none => rw [hp] at h; cases h
    | some p =>
      cases hps : pairsOf us with
      | none => rw [hp, hps] at h; cases h
      | some ps =>
        rw [hp, hps] at h
        cases h
        obtain ⟨as, xs, rfl, pr, rx⟩ := pairs_rel rs hps
        unfold pairOf at hp
        split at hp
        · rename_i k v
          obtain ⟨kk, hk, rfl⟩ := Option.map_eq_some_iff.mp hp
          cases r with
          | tup hq rr =>
            cases rr with
            | cons r1 rr =>
              cases rr with
              | cons r2 rr =>
                cases rr
                have hk1 := keyU_ok r1 hk
                subst hk1
                exact ⟨_ :: as, _ :: xs, rfl, .cons hq.sq pr, .cons r2 rx⟩
        · cases hp
theorem cd_dict (hc : X.calm = true) : CallSimD X (.type "dict") dictC := by
  refine ⟨_, call_dictD.or (call_dictP hc), fun w us vs Q E s rs h hE => ?_⟩
  unfold dictC at h
  split at h
  · rename_i u
    cases rs with
    | cons r rs =>
      cases rs
      split at h
      · rename_i p hd
        obtain ⟨ks, us⟩ := p
        obtain ⟨a, xs, rfl, q, l, rx⟩ := dictOf_ok s r hd
        exact .inl ⟨a, _, rfl, .inl q, fun p hp => h w p xs rfl (Stp.refl w) s l rx hp⟩
      · split at h
        · rename_i ps hb
          obtain ⟨ls, hl, hps⟩ := Option.bind_eq_some_iff.mp hb
          obtain ⟨a, xs, rfl, q, rx⟩ := listOf_ok s r hl
          obtain ⟨as, ys, rfl, pr, ry⟩ := pairs_rel rx hps
          obtain ⟨zs, e1, r1, l1⟩ := merge_ok (ks := []) (us := []) (xs := []) ry rfl .nil
          refine .inr ⟨a, as, _, rfl, q, pr, fun p hp => ?_⟩
          have e2 : mergeK [] ((ps.map (·.1)).zip ys) = _ := e1
          rw [e2]
          exact h w p zs rfl (Stp.refl w) s l1 r1 hp
        · exact h.elim
  · exact h.elim
end
end DL
namespace DL
open PySem PySem.Spec L2 TL
def leT (a b : Str) : Bool := !ltCps (tl b) (tl a)
theorem leT_iff (a b : Str) : leT a b = true ↔ ¬ (tl b < tl a) := by
  unfold leT
  rw [PyProof.Rows.ltCps_eq, Bool.not_eq_true', decide_eq_false_iff_not]
theorem leT_total (a b : Str) : leT a b = true ∨ leT b a = true := by
  rw [leT_iff, leT_iff]
  by_cases h : tl b < tl a
  · exact .inr (List.lt_asymm h)
  · exact .inl h
theorem leT_trans {a b c : Str} (h1 : leT a b = true) (h2 : leT b c = true) : leT a c = true := by
  rw [leT_iff] at h1 h2 ⊢
  have h3 := List.le_trans (List.not_lt.mp h1) (List.not_lt.mp h2)
  exact List.not_lt.mpr h3
theorem leT_anti {a b : Str} (h1 : leT a b = true) (h2 : leT b a = true) : a = b := by
  rw [leT_iff] at h1 h2
  exact ext_tl (List.le_antisymm (List.not_lt.mp h1) (List.not_lt.mp h2))
theorem rising_pw : ∀ {p : Str} {l : List Str}, PyProof.Rows.risingS p l = true → (p :: l).Pairwise fun a b => leT a b = true
  | p, [], _ => List.pairwise_singleton _ _
  | p, x :: r, h => by
    have h : (!ltCps (tl x) (tl p) && PyProof.Rows.risingS x r) = true := h
    rw [Bool.and_eq_true] at h
    have ih := rising_pw h.2
    refine List.pairwise_cons.mpr ⟨fun y hy => ?_, ih⟩
    rcases List.mem_cons.mp hy with rfl | hy
    · exact h.1
    · exact leT_trans h.1 ((List.pairwise_cons.mp ih).1 y hy)
theorem sorted_pw {l : List Str} (h : PyProof.Rows.sortedS l = true) : l.Pairwise fun a b => leT a b = true := by
  cases l with
  | nil => exact List.Pairwise.nil
  | cons x r => exact rising_pw h
def sortT (ks : List Str) : List Str := ks.mergeSort leT
theorem sortT_perm (ks : List Str) : (sortT ks).Perm ks := List.mergeSort_perm ks leT
theorem sortT_pw (ks : List Str) : (sortT ks).Pairwise fun a b => leT a b = true := List.pairwise_mergeSort (le := leT) (fun _ _ _ h1 h2 => leT_trans h1 h2) (fun a b => by simpa [Bool.or_eq_true] using leT_total a b) ks
theorem pw_unique : ∀ {l m : List Str}, l.Perm m → l.Pairwise (fun a b => leT a b = true) → m.Pairwise (fun a b => leT a b = true) → l = m
  | [], m, p, _, _ => p.nil_eq
  | x :: l, [], p, _, _ => absurd p.symm.nil_eq (by intro h; cases h)
  | x :: l, y :: m, p, h1, h2 => by
    have hx : x ∈ y :: m := p.mem_iff.mp List.mem_cons_self
    have hy : y ∈ x :: l := p.mem_iff.mpr List.mem_cons_self
    have e : x = y := by
      rcases List.mem_cons.mp hx with e | hx
      · exact e
      · rcases List.mem_cons.mp hy with e | hy
        · exact e.symm
        · exact leT_anti ((List.pairwise_cons.mp h1).1 y hy) ((List.pairwise_cons.mp h2).1 x hx)
    subst e
    rw [pw_unique (List.Perm.cons_inv p) (List.pairwise_cons.mp h1).2 (List.pairwise_cons.mp h2).2]
theorem sorted_eq {ys ks : List Str} (p : ys.Perm ks) (h : PyProof.Rows.sortedS ys = true) : ys = sortT ks := pw_unique (p.trans (sortT_perm ks).symm) (sorted_pw h) (sortT_pw ks)
end DL
namespace DL
open PySem PySem.Spec L2 TL
section
variable {X : Cx} {Wx : WX}
def keysS : List Key → Option (List Str)
  | [] => some []
  | .inr k :: ks => (keysS ks).map (k :: ·)
  | _ => none
theorem keysS_ok : ∀ {ks : List Key} {zs : List Str}, keysS ks = some zs → ks = zs.map Sum.inr
  | [], _, h => by cases h; rfl
  | .inr k :: ks, _, h => by
    unfold keysS at h
    obtain ⟨zs, e, rfl⟩ := Option.map_eq_some_iff.mp h
    rw [keysS_ok e]; rfl
  | .inl k :: ks, _, h => by unfold keysS at h; cases h
def sortedC (us : List U) (S : Sto) : R (List U) := match us with
  | [u] => match dictOf u S with
    | some p => match keysS p.1 with
      | some zs => guard (decide (zs.length < 64)) (.ok ((sortT zs).map .str) S)
      | none => .bad
    | none => match (DL.listOf u S).bind strsOf with
      | some zs => guard (decide (zs.length < 64)) (.ok ((sortT zs).map .str) S)
      | none => .bad
  | _ => .bad
theorem cl_sorted (hc : X.calm = true) : CallSimL X (.builtin "sorted") sortedC := by
  refine ⟨_, (call_sortedD hc).or cr_sortedS, fun w us vs Q E s rs h => ?_⟩
  have fin : ∀ {zs ys : List Str} {p : Addr}, OkL X w Q ((sortT zs).map .str) w.S → ys.Perm zs → PyProof.Rows.sortedS ys = true → w.H p = none → Q (.ref p) (upd w.H p (.lst (ys.map V.str))) := fun {zs ys p} h1 pm so hp => by
    rw [sorted_eq pm so]
    exact h1 w p _ rfl (Stp.refl w) s (strs_rel _) hp
  unfold sortedC at h
  split at h
  · rename_i u
    cases rs with
    | cons r rs =>
      cases rs
      split at h
      · rename_i p hd
        obtain ⟨ks, us⟩ := p
        split at h
        · rename_i zs hk
          obtain ⟨hl, h⟩ := guard_post h
          have hk := keysS_ok hk
          obtain ⟨a, xs, rfl, q, l, rx⟩ := dictOf_ok s r hd
          refine .inl ⟨a, _, zs, rfl, .inl q, ?_, of_decide_eq_true hl, fun ys p pm so hp => fin h pm so hp⟩
          rw [List.map_fst_zip (by rw [← rx.length, ← l]; exact Nat.le_refl _)]
          exact hk
        · exact h.elim
      · split at h
        · rename_i zs hb
          obtain ⟨hl, h⟩ := guard_post h
          obtain ⟨ls, hls, hzs⟩ := Option.bind_eq_some_iff.mp hb
          obtain ⟨a, xs, rfl, q, rx⟩ := listOf_ok s r hls
          have e := strsOf_ok rx hzs
          subst e
          exact .inr ⟨a, zs, rfl, q, of_decide_eq_true hl, fun ys p pm so hp => fin h pm so hp⟩
        · exact h.elim
  · exact h.elim
end
end DL
namespace DL
open PySem PySem.Spec L2
section
variable {X : Cx} {Wx : WX}
def aAdd (fa fb : FE) : FA := fun d S => (fa d S).bind fun x S1 => (fb d S1).bind fun y S2 => match listM x S2, listM y S2 with
  | some a, some b => guard (decide (a.length + b.length ≤ sizeLine)) (.ok (a ++ b) S2)
  | _, _ => .bad
theorem sl_add {a b : Expr} {fa fb : FE} {pos : Pos} (ha : SimE X Wx a fa) (hb : SimE X Wx b fb) : SimL X Wx (.BinOp a .Add b pos) (aAdd fa fb) := by
  obtain ⟨ta, pa, ha⟩ := ha.out
  obtain ⟨tb, pb, hb⟩ := hb.out
  refine SimL.mk (pe_op op_cat pa pb) (fun w d σ Q s e h => ?_)
  refine ha w d σ _ s e ((Pst.of_bind h).mono (fun x S1 h1 w1 v1 eS st s1 r1 => ?_) fun _ _ q => q)
  subst eS
  refine hb w1 d σ _ s1 (e.ext st.x s) ((Pst.of_bind h1).mono (fun y S2 h2 w2 v2 eS2 st2 s2 r2 => ?_) fun _ _ q => q.up st)
  subst eS2
  split at h2
  · rename_i a b ea eb
    obtain ⟨hl, h2⟩ := guard_post h2
    obtain ⟨p, xs, rfl, q, rs⟩ := listM_ok s2 (r1.ext st2.x s1) ea
    obtain ⟨p', xs', rfl, q', rs'⟩ := listM_ok s2 r2 eb
    exact ⟨p, p', xs, xs', rfl, rfl, q, q', by rw [← rs.length, ← rs'.length]; exact of_decide_eq_true hl, fun z hz => h2 w2 z _ rfl (st.trans st2) s2 (rs.append rs') hz⟩
  · exact h2.elim
def enumU : Nat → List U → List U
  | _, [] => []
  | n, u :: us => .tup [.int (n : Nat), u] :: enumU (n + 1) us
theorem enumU_len : ∀ (n : Nat) (us : List U), (enumU n us).length = us.length
  | _, [] => rfl
  | n, u :: us => by show (enumU (n + 1) us).length + 1 = _; rw [enumU_len (n + 1) us]; rfl
theorem enumU_get : ∀ {n : Nat} {us : List U} {i : Nat} {u : U}, (enumU n us)[i]? = some u → ∃ y, us[i]? = some y ∧ u = .tup [.int ((n + i : Nat) : Int), y]
  | _, [], _, _, h => by simp [enumU] at h
  | n, y :: us, 0, u, h => by
    have h : some (U.tup [.int (n : Nat), y]) = some u := h
    cases h
    exact ⟨y, rfl, rfl⟩
  | n, y :: us, i + 1, u, h => by
    obtain ⟨z, h1, h2⟩ := enumU_get (n := n + 1) (us := us) (i := i) (u := u) h
    exact ⟨z, h1, by rw [h2, show n + 1 + i = n + (i + 1) by omega]⟩
theorem it_enum {K : KM} {w : Wd} {a : Addr} {us : List U} (hk : ∀ w', Ext w w' → ∃ xs, SqL K w'.H a xs ∧ VRs K w' us xs) : ItSim K w (Ite K a) (enumU 0 us) := fun w' i x s => by
  obtain ⟨xs, hq, rs⟩ := hk w' x
  refine ⟨fun u hu => ?_, fun h => ⟨xs, hq, by rw [← rs.length]; rw [enumU_len] at h; exact h⟩⟩
  obtain ⟨y, hy, rfl⟩ := enumU_get hu
  obtain ⟨z, hz, rz⟩ := rs.get hy
  refine ⟨⟨xs, z, hq, hz⟩, fun v H' q => ?_⟩
  obtain ⟨T, z', rfl, hT, rfl, hz'⟩ := q
  have e := hz' xs hq
  rw [hz] at e
  cases e
  have st := Stp.new s (o := .tup [.int (i : Nat), z]) hT
  refine ⟨w'.new T _, rfl, rfl, st, s.new hT, ?_⟩
  rw [Nat.zero_add]
  exact .tup (TqT.of upd_same) (.cons (.int _) (.cons (rz.ext st.x s) .nil))
def iceV (i : Nat) : FS := fun d S => match d[i]? with
  | some (some (.loc n)) => match S[n]? with
    | some (.lst us) => .ok (.nx (d.set i (some (.lst us)))) (S.set n .dead)
    | some (.dic ks us) => .ok (.nx (d.set i (some (.dic ks us)))) (S.set n .dead)
    | _ => .bad
  | _ => .bad
theorem ER.same {w : Wd} {d : En} {σ : L2.St} {i : Nat} {u : U} {v : V} (e : ER (KMof X) w d σ) (h : σ[i]? = some (some v)) (r : VR (KMof X) w u v) : ER (KMof X) w (d.set i (some u)) σ := by
  have z := e.set i r
  have q : σ.set i (some v) = σ := by
    apply List.ext_getElem?
    intro j
    by_cases hj : i = j
    · subst hj
      rw [List.getElem?_set_self (List.getElem?_eq_some_iff.mp h).1, h]
    · rw [List.getElem?_set_ne hj]
  rw [q] at z
  exact z
theorem ss_ice {st : Stmt} {f : FS} (i : Nat) (h : SimS X Wx st f) : SimS X Wx st (fSeq (iceV i) f) := by
  obtain ⟨t, p, h⟩ := h.out
  refine SimS.mk p (fun w d σ D s e h0 => ?_)
  unfold fSeq iceV at h0
  cases hd : d[i]? with
  | none => rw [hd] at h0; exact h0.elim
  | some o =>
    cases o with
    | none => rw [hd] at h0; exact h0.elim
    | some u =>
      cases u with
      | loc n =>
        rw [hd] at h0
        dsimp only at h0
        obtain ⟨v, hv, rv⟩ := e.get i _ hd
        cases rv with
        | @loc _ a hm =>
          cases hS : w.S[n]? with
          | none => rw [hS] at h0; exact h0.elim
          | some b =>
            rw [hS] at h0
            cases b with
            | lst us =>
              obtain ⟨xs, q, rs⟩ := s.obj n a _ hm hS
              have r : VR (KMof X) (w.ice n) (.lst us) (.ref a) := .lst q (live_ice s hm hS (by intro z; cases z)) (rs.ext (Ext.ice w n) s)
              exact h (w.ice n) _ σ D (s.ice n) ((e.ext (Ext.ice w n) s).same hv r) (Pst.mono h0 (fun _ _ q => q.up (Stp.ice w n)) fun _ _ q => q)
            | dic ks us =>
              obtain ⟨xs, q, l, rs⟩ := s.obj n a _ hm hS
              have r : VR (KMof X) (w.ice n) (.dic ks us) (.ref a) := .dic q (live_ice s hm hS (by intro z; cases z)) l (rs.ext (Ext.ice w n) s)
              exact h (w.ice n) _ σ D (s.ice n) ((e.ext (Ext.ice w n) s).same hv r) (Pst.mono h0 (fun _ _ q => q.up (Stp.ice w n)) fun _ _ q => q)
            | ins c fs => exact h0.elim
            | kd ks us => exact h0.elim
            | dead => exact h0.elim
      | _ => rw [hd] at h0; exact h0.elim
end
end DL
namespace DL
open PySem PySem.Spec L2 PySem.W
def clsInit (s : Stmt) : Stmt := match s with
  | .ClassDef _ _ _ body _ _ _ _ _ _ _ => body.getD 0 (.Pass ⟨0, 0, 0, 0⟩)
  | s => s
def oxB (K : Frag) (C I : Addr) (f : Str) (bm : List Value) : Bool :=
  decide (findIn K (.ref C) "__setattr__" = some (some (.builtin "object.__setattr__"))) && (decide (subIn K (.ref C) (.type "BaseException") = some true) && (decide (typeIn K (.ref C) = some (.type "type")) && (keepIn K (.ref C) && (excOver K C bm && (hasDictIn K C && (decide (typeIn K (.ref I) = some (.type "function")) && (decide (findIn K (.ref C) f = some none) &&
  (decide (findIn K (.ref C) "__getattribute__" = some (some (.builtin "BaseException.__getattribute__"))) && (decide (findIn K (.ref C) "__getattr__" = some none) && (decide (findIn K (.ref C) "__class__" = some (some (.builtin "object.__class__"))) && (decide (specialIn K (.builtin "object.__class__") "__get__" = some (some (.builtin "getset_descriptor.__get__"))) && (decide (takesIn K (.builtin "object.__class__") = some true) && decide (mroIn K C (.type "object") = some true)))))))))))))
structure XC (K : Frag) (mg : Str → Option Value) (x xi f : Str) (C I : Addr) (fd : FuncData) (st : Stmt) (newId : String) (bm : List Value) : Prop where
  mc : mg x = some (.ref C)
  ox : OxC K C newId bm
  ic : findIn K (.ref C) "__init__" = some (some (.ref I))
  ti : typeIn K (.ref I) = some (.type "function")
  fi : Fun K "__init__" (x ++ ".__init__") st I fd
  bi : Binds K fd ["self", xi] []
  nf : findIn K (.ref C) f = some none
  xf : XfC K C
  ec : ExcC K C
theorem xc_mk {K : Frag} {mg : Str → Option Value} {x xi f : Str} {C I : Addr} {fd : FuncData} {st : Stmt} {newId : String} {bm : List Value} {nm q : Str} {N : Addr} {bs : List Value} {sn : List Str} {sub : List Value} {ab : Bool} {col : Option Bool} {dd : Option Addr} {m0 m1 m2 m3 m5 : Option Value}
    (mc : mg x = some (.ref C)) (l : K.lookup C = some (excClassObj nm q C N bs bm true sn sub ab col dd m0 m1 m2 m3 m5 newId)) (ic : findIn K (.ref C) "__init__" = some (some (.ref I))) (fi : Fun K "__init__" (x ++ ".__init__") st I fd) (bi : Binds K fd ["self", xi] []) (h : oxB K C I f bm = true) : XC K mg x xi f C I fd st newId bm := by
  unfold oxB at h
  simp only [Bool.and_eq_true, decide_eq_true_eq] at h
  obtain ⟨h1, h2, h3, h4, h5, h6, h7, h8, h9, h10, h11, h12, h13, h14⟩ := h
  exact ⟨mc, ⟨⟨nm, q, N, bs, sn, sub, ab, col, dd, m0, m1, m2, m3, m5, l⟩, h1, h2, h3, h4, h5, h6⟩, ic, h7, fi, bi, h8, ⟨h9, h10, h2, h6⟩, ⟨h9, h10, h2, h6, h11, h12, h13, h14⟩⟩
def isB (K : Frag) : List (Addr × Value × Bool) → Bool
  | [] => true
  | (C, v, b) :: r => decide (kitOne K (.ref C) v = some b) && isB K r
theorem IsOk.n {K : Frag} {mg : Str → Option Value} : isB K [] = true → IsOk K mg [] := fun _ => ⟨fun _ _ _ h => (by cases h), fun _ _ _ h => (by cases h)⟩
theorem IsOk.o {K : Frag} {mg : Str → Option Value} {tab : IsTab} {c c2 : Str} {C C2 : Addr} {b : Bool} {L : List (Addr × Value × Bool)} (hm : mg c = some (.ref C)) (hm2 : mg c2 = some (.ref C2)) (E : ExcC K C) (r : isB K L = true → IsOk K mg tab) : isB K ((C, .ref C2, b) :: L) = true → IsOk K mg (((c, .inl c2), b) :: tab) := fun h => by
  unfold isB at h
  rw [Bool.and_eq_true] at h
  have r := r h.2
  have hk := of_decide_eq_true h.1
  refine ⟨fun x y d hl D D2 hD hD2 => ?_, fun x n d hl D hD => ?_⟩
  · unfold lookI at hl
    split at hl
    · rename_i q
      obtain ⟨rfl, q⟩ := q
      cases q
      cases hl
      rw [hm] at hD
      rw [hm2] at hD2
      cases hD
      cases hD2
      exact ⟨E, hk⟩
    · exact r.own x y d hl D D2 hD hD2
  · unfold lookI at hl
    split at hl
    · rename_i q
      cases q.2
    · exact r.blt x n d hl D hD
theorem IsOk.t {K : Frag} {mg : Str → Option Value} {tab : IsTab} {c : Str} {n : String} {C : Addr} {b : Bool} {L : List (Addr × Value × Bool)} (hm : mg c = some (.ref C)) (E : ExcC K C) (r : isB K L = true → IsOk K mg tab) : isB K ((C, .type n, b) :: L) = true → IsOk K mg (((c, .inr n), b) :: tab) := fun h => by
  unfold isB at h
  rw [Bool.and_eq_true] at h
  have r := r h.2
  have hk := of_decide_eq_true h.1
  refine ⟨fun x y d hl D D2 hD hD2 => ?_, fun x n d hl D hD => ?_⟩
  · unfold lookI at hl
    split at hl
    · rename_i q
      cases q.2
    · exact r.own x y d hl D D2 hD hD2
  · unfold lookI at hl
    split at hl
    · rename_i q
      obtain ⟨rfl, q⟩ := q
      cases q
      cases hl
      rw [hm] at hD
      cases hD
      exact ⟨E, hk⟩
    · exact r.blt x n d hl D hD
abbrev iO (c d : Str) (b : Bool) : (Str × (Str ⊕ String)) × Bool := ((c, .inl d), b)
abbrev iT (c : Str) (d : String) (b : Bool) : (Str × (Str ⊕ String)) × Bool := ((c, .inr d), b)
abbrev kO (c d : Addr) (b : Bool) : Addr × Value × Bool := (c, .ref d, b)
abbrev kT (c : Addr) (d : String) (b : Bool) : Addr × Value × Bool := (c, .type d, b)
def exB (K : Frag) (c : Value) : List (Addr × Bool) → Bool
  | [] => true
  | (C, b) :: r => decide (exmOne K (.ref C) c = some b) && exB K c r
def lookM : List (Str × Bool) → Str → Option Bool
  | [], _ => none
  | (c, b) :: r, z => if c = z then some b else lookM r z
def ExOk (K : Frag) (mg : Str → Option Value) (c : Value) (m : Str → Option Bool) : Prop := ∀ z b, m z = some b → ∀ cls, mg z = some cls → exmOne K cls c = some b ∧ ∃ C, cls = .ref C
theorem ExOk.n {K : Frag} {mg : Str → Option Value} {c : Value} : exB K c [] = true → ExOk K mg c (lookM []) := fun _ z b h => by cases h
theorem ExOk.o {K : Frag} {mg : Str → Option Value} {c : Value} {x : Str} {C : Addr} {b : Bool} {L : List (Addr × Bool)} {tab : List (Str × Bool)} (hm : mg x = some (.ref C)) (r : exB K c L = true → ExOk K mg c (lookM tab)) : exB K c ((C, b) :: L) = true → ExOk K mg c (lookM ((x, b) :: tab)) := fun h z d hl cls hc => by
  unfold exB at h
  rw [Bool.and_eq_true] at h
  unfold lookM at hl
  split at hl
  · rename_i q
    subst q
    cases hl
    rw [hm] at hc
    cases hc
    exact ⟨of_decide_eq_true h.1, C, rfl⟩
  · exact r h.2 z d hl cls hc
theorem fn_bad {P : Program} {w : World} {K : PySem.W.Frag} {mg : Str → Option Value} {base : Heap} {f : Addr} {fd : FuncData} {ps : List Str} {g : List U → Sto → R U} (hg : ∀ us S, g us S = .bad) (n k : Nat) : FnOk P w K mg base (L2.CX P w) k f fd ps (spOf ⟨K, mg, P, w⟩ n g) := by
  have no : ∀ vs H Q E, ¬ spOf ⟨K, mg, P, w⟩ n g vs H Q E := fun vs H Q E ⟨w, us, _, _, _, _, q⟩ => by rw [hg] at q; exact q
  exact ⟨fun vs H Q E h => (no vs H Q E h).elim, fun A outer s H as us vs Q E _ _ _ _ h => (no vs H Q E h).elim⟩
end DL
namespace DL
open PySem PySem.Spec L2
section
variable {X : Cx} {Wx : WX}
end
end DL
namespace DL
open PySem PySem.Spec L2
def getF : List (Str × U) → Str → Option U
  | [], _ => none
  | (g, u) :: r, f => if f == g then some u else getF r f
def setF (f : Str) (u : U) : List (Str × U) → List (Str × U)
  | [] => [(f, u)]
  | (g, v) :: r => if g = f then (g, u) :: r else (g, v) :: setF f u r
section
variable {K : KM} {w : Wd}
theorem getF_ok {f : Str} : ∀ {fs : List (Str × U)} {xs : List V}, VRs K w (fs.map (·.2)) xs → (∀ u, getF fs f = some u → ∃ v, ((fs.map (·.1)).zip xs).lookup f = some v ∧ VR K w u v) ∧ (getF fs f = none → ((fs.map (·.1)).zip xs).lookup f = none)
  | [], xs, _ => ⟨fun u h => (by cases h), fun _ => rfl⟩
  | (g, y) :: fs, xs, h => by
    cases h with
    | @cons _ _ x xs r rs =>
      obtain ⟨h1, h2⟩ := getF_ok (f := f) (fs := fs) rs
      have e : (((g, y) :: fs).map (·.1)).zip (x :: xs) = (g, x) :: (fs.map (·.1)).zip xs := rfl
      rw [e]
      unfold getF List.lookup
      cases hb : f == g with
      | true => exact ⟨fun u q => (by cases q; exact ⟨x, rfl, r⟩), fun q => (by cases q)⟩
      | false => exact ⟨h1, h2⟩
theorem setF_ok {f : Str} {u : U} {v : V} (r : VR K w u v) : ∀ {fs : List (Str × U)} {xs : List V}, VRs K w (fs.map (·.2)) xs → ∃ xs', putF f v ((fs.map (·.1)).zip xs) = ((setF f u fs).map (·.1)).zip xs' ∧ VRs K w ((setF f u fs).map (·.2)) xs'
  | [], xs, _ => ⟨[v], rfl, .cons r .nil⟩
  | (g, y) :: fs, xs, h => by
    cases h with
    | @cons _ _ x xs q qs =>
      obtain ⟨xs', e, rs⟩ := setF_ok r (fs := fs) qs
      have e0 : (((g, y) :: fs).map (·.1)).zip (x :: xs) = (g, x) :: (fs.map (·.1)).zip xs := rfl
      rw [e0]
      unfold putF setF
      by_cases hg : g = f
      · rw [if_pos hg, if_pos hg]
        exact ⟨v :: xs, rfl, .cons r qs⟩
      · rw [if_neg hg, if_neg hg, e]
        exact ⟨x :: xs', rfl, .cons q rs⟩
def isIns (c m : Str) (u : U) (S : Sto) : Bool := match u with
  | .loc n => match S[n]? with
    | some (.ins c' fs) => decide (c' = c) && (getF fs m).isNone
    | _ => false
  | _ => false
theorem isIns_ok {c m : Str} {u : U} {v : V} {C : Addr} (s : SR K w) (hm : K.mg c = some (.ref C)) (r : VR K w u v) (h : isIns c m u w.S = true) : ∃ a dx fs, v = .ref a ∧ w.H a = some (.ins C dx fs) ∧ fs.lookup m = none := by
  unfold isIns at h
  split at h
  · rename_i n
    split at h
    · rename_i c' fs hS
      rw [Bool.and_eq_true] at h
      have e := of_decide_eq_true h.1
      subst e
      cases r with
      | @loc _ a hn =>
        obtain ⟨C', dx, xs, hC, e, rs⟩ := s.obj n a _ hn hS
        rw [hm] at hC
        cases hC
        exact ⟨a, dx, _, rfl, e, (getF_ok rs).2 (Option.isNone_iff_eq_none.mp h.2)⟩
    · cases h
  · cases h
end
section
variable {X : Cx} {Wx : WX}
def fGet (c f : Str) (fe : FE) : FE := fun d S => (fe d S).bind fun u S1 => match u with
  | .loc n => match S1[n]? with
    | some (.ins c' fs) => if c' = c then oU (getF fs f) S1 else .bad
    | _ => .bad
  | _ => .bad
theorem se_get {e : Expr} {fe : FE} {c f : Str} {C : Addr} {pos : Pos} (hm : X.mg c = some (.ref C)) (cl : Cls X.K C) (na : NoAttr X.K C f) (he : SimE X Wx e fe) (hb : attributeBase e f X.env (eval e X.env) = eval e X.env := by rfl) : SimE X Wx (.Attribute e f pos) (fGet c f fe) := by
  obtain ⟨t, p, he⟩ := he.out
  refine SimE.mk (L2.pe_fld p hb) (fun w d σ Q s e h => ?_)
  refine he w d σ _ s e ((Pst.of_bind h).mono (fun u S1 h1 w1 v eS st s1 r => ?_) fun _ _ q => q)
  subst eS
  split at h1
  · rename_i n
    split at h1
    · rename_i c' fs hS
      split at h1
      · rename_i hc
        subst hc
        unfold oU at h1
        split at h1
        · rename_i y hy
          cases r with
          | @loc _ a hn =>
            obtain ⟨C', dx, xs, hC, e, rs⟩ := s1.obj n a _ hn hS
            rw [show (KMof X).mg c' = some (.ref C) from hm] at hC
            cases hC
            obtain ⟨v, hv, rv⟩ := (getF_ok rs).1 y hy
            exact ⟨a, C, dx, _, v, rfl, e, cl, na, hv, h1 w1 v rfl st s1 rv⟩
        · exact h1.elim
      · exact h1.elim
    · exact h1.elim
  · exact h1.elim
def fPutF (c f : Str) (fo fe : FE) : FS := fun d S => toS d (fe d S) fun v S1 => toS d (fo d S1) fun u S2 => match u with
  | .loc n => match S2[n]? with
    | some (.ins c' fs) => if c' = c ∧ fs.length < 1000 then .ok (.nx d) (S2.set n (.ins c (setF f v fs))) else .bad
    | _ => .bad
  | _ => .bad
theorem zip_le {fs : List (Str × U)} {xs : List V} : ((fs.map (·.1)).zip xs).length ≤ fs.length := by
  rw [List.length_zip, List.length_map]
  exact Nat.min_le_left _ _
theorem ss_putF {o e : Expr} {fo fe : FE} {c f : Str} {C : Addr} {p' pos : Pos} (hm : X.mg c = some (.ref C)) (cl : Cls X.K C) (na : NoAttr X.K C f) (ho : SimE X Wx o fo) (he : SimE X Wx e fe) (hs : swapsWith e (some (.Attribute o f p')) pos.line X.env = pure false := by rfl) : SimS X Wx (.Assign [.Attribute o f p'] e pos) (fPutF c f fo fe) := by
  obtain ⟨tt, p, ho⟩ := ho.out
  obtain ⟨te, pe, he⟩ := he.out
  refine SimS.mk (ps_fld p pe hs) (fun w d σ D s e h => ?_)
  refine he w d σ _ s e ((toS_post s e h).mono (fun y S1 h1 w1 v eS st s1 r => ?_) fun _ _ q => q)
  subst eS
  have e1 := e.ext st.x s
  refine ho w1 d σ _ s1 e1 ((toS_post s1 e1 (Pst.mono h1 (fun _ _ q => q.up st) fun _ _ q => q)).mono (fun u S2 h2 w2 v2 eS2 st2 s2 r2 => ?_) fun _ _ q => q)
  subst eS2
  split at h2
  · rename_i n
    split at h2
    · rename_i c' fs hS
      split at h2
      · rename_i hc
        obtain ⟨hc, hl⟩ := hc
        subst hc
        cases r2 with
        | @loc _ a hn =>
          obtain ⟨C', dx, xs, hC, e, rs⟩ := s2.obj n a _ hn hS
          rw [show (KMof X).mg c' = some (.ref C) from hm] at hC
          cases hC
          obtain ⟨xs', ex, rs'⟩ := setF_ok (f := f) (r.ext st2.x s1) rs
          refine ⟨a, C, dx, _, rfl, e, cl, na, Nat.lt_of_le_of_lt zip_le hl, ?_⟩
          rw [ex]
          have hd : Ob.ins c' fs ≠ .dead := by intro z; cases z
          have st3 := Stp.put s2 (o := .ins C dx (((setF f y fs).map (·.1)).zip xs')) (b := .ins c' (setF f y fs)) hn hS hd
          exact h2 (w2.put n a _ _) rfl (st2.trans st3) (s2.put hn hS hd ⟨C, dx, xs', hm, upd_same, rs'.ext st3.x s2⟩) σ ((e1.ext st2.x s1).ext st3.x s2)
      · exact h2.elim
    · exact h2.elim
  · exact h2.elim
def tMethSD (C : Addr) (m : Str) (sp : Sp) (E : L2.St → XK) (ta : TE) (t : TA) : TE := fun σ H Q => ta σ H fun x H1 => ∃ a dx fs, x = .ref a ∧ H1 a = some (.ins C dx fs) ∧ fs.lookup m = none ∧ t σ H1 fun vs H2 => sp (x :: vs) H2 Q (E σ)
section
variable {CX : CXT} {k : Nat} {f C : Addr} {fd : FuncData} {ps : List Str} {sp : Sp} {E : L2.St → XK} {x m : Str} {p pos apos : Pos} {e o : Expr} {es : List Expr} {ta : TE} {t : TA}
theorem pe_methSD {pl : Sem Bool} (he : PE X o ta) (c : Cls X.K C) (hm : Meth X.K C m f) (F : FnOk X.prog X.w X.K X.mg X.base CX k f fd ps sp) (hr : Room k X.A) (hb : Binds X.K fd ps []) (hx : ∀ σ, PassesAt CX X σ (E σ)) (ha : PA X (e :: es) t)
    (hst : starEach (e :: es) X.env = (false, eval e X.env) :: starEach es X.env) (hpl : (backTo pos (starEach es X.env)).any (·.1) = false)
    (ht : eval (.Call (.Attribute o m apos) (e :: es) [] pos) X.env = (do
      let ov ← eval o X.env
      standAt apos.atName
      let (f, first) ← holding [ov] (getMethod ov m pl)
      callWith pos f first (backTo pos (starEach (e :: es) X.env)) (backToKw pos (keywordEach [] X.env)))) : PE X (.Call (.Attribute o m apos) (e :: es) [] pos) (tMethSD C m sp E ta t) := by
  refine ⟨fun pins s σ H Q I h => PySem.W.methodCall_KW (pl := pl) (thn (he.run pins s σ H _ I h) fun u s1 ⟨x, H1, I1, rx, a, dx, fs, ex, ea, l, q⟩ => ?_) ht⟩
  subst ex
  obtain rfl : u = Value.ref a := rx
  refine getmeth_ok I1 ea c hm l (PySem.W.callWith_K (first := [.ref a]) (h₀ := X.base) I.ok.mod.kin hm.kp (thn (ha.run pos pins s1 σ H1 _ I1 q) fun us s2 ⟨vs, H2, I2, r, q2⟩ => ⟨I2.kIn, ?_⟩) hst hpl)
  exact run_fnSD (us := .ref a :: us) (vs := .ref a :: vs) (E := E) F hr hb .nil (hx σ) I2 (.cons rfl r) (by rw [List.append_nil]; exact q2)
theorem pe_methSD0 {pl : Sem Bool} (he : PE X o ta) (c : Cls X.K C) (hm : Meth X.K C m f) (F : FnOk X.prog X.w X.K X.mg X.base CX k f fd ps sp) (hr : Room k X.A) (hb : Binds X.K fd ps []) (hx : ∀ σ, PassesAt CX X σ (E σ))
    (ht : eval (.Call (.Attribute o m apos) [] [] pos) X.env = (do
      let ov ← eval o X.env
      standAt apos.atName
      let (f, first) ← holding [ov] (getMethod ov m pl)
      callWith pos f first (backTo pos (starEach [] X.env)) (backToKw pos (keywordEach [] X.env)))) : PE X (.Call (.Attribute o m apos) [] [] pos) (tMethSD C m sp E ta tNil) := by
  refine ⟨fun pins s σ H Q I h => PySem.W.methodCall_KW (pl := pl) (thn (he.run pins s σ H _ I h) fun u s1 ⟨x, H1, I1, rx, a, dx, fs, ex, ea, l, q⟩ => ?_) ht⟩
  subst ex
  obtain rfl : u = Value.ref a := rx
  exact getmeth_ok I1 ea c hm l (PySem.W.callWith_K0 (first := [.ref a]) I1.kIn hm.kp (run_fnSD (us := [.ref a]) (vs := [.ref a]) (E := E) F hr hb .nil (hx σ) I1 (.cons rfl .nil) q))
end
def fMeth (c m : Str) (n : Nat) (g : List U → Sto → R U) (fo : FE) (fa : FA) : FE := fun d S => (fo d S).bind fun u S1 => guard (isIns c m u S1) ((fa d S1).bind fun us S2 => guard (us.length + 1 == n) (g (u :: us) S2))
section
variable {k n : Nat} {f C : Addr} {fd : FuncData} {ps : List Str} {c m : Str} {p pos apos : Pos} {e o : Expr} {es : List Expr} {fo : FE} {fa : FA} {g : List U → Sto → R U}
theorem meth_core {to : TE} {ta : TA} (hm : X.mg c = some (.ref C))
    (ho : ∀ (w : Wd) (d : En) (σ : L2.St) (Q : VK), SR (KMof X) w → ER (KMof X) w d σ → Pst (fo d w.S) (OkE X w Q) (XPost X Wx σ w) → to σ w.H Q)
    (ha : ∀ (w : Wd) (d : En) (σ : L2.St) (Q : List V → Hp → Prop), SR (KMof X) w → ER (KMof X) w d σ → Pst (fa d w.S) (OkA X w Q) (XPost X Wx σ w) → ta σ w.H Q)
    (w : Wd) (d : En) (σ : L2.St) (Q : VK) (s : SR (KMof X) w) (e : ER (KMof X) w d σ) (h : Pst (fMeth c m n g fo fa d w.S) (OkE X w Q) (XPost X Wx σ w)) :
    tMethSD C m (spOf (KMof X) n g) (fun σ c d H => Wx c d σ H) to ta σ w.H Q := by
  refine ho w d σ _ s e ((Pst.of_bind h).mono (fun u S1 h1 w1 v eS st s1 r => ?_) fun _ _ q => q)
  subst eS
  obtain ⟨hi, h1⟩ := guard_post h1
  obtain ⟨a, dx, fs, rfl, ea, l⟩ := isIns_ok s1 hm r hi
  refine ⟨a, dx, fs, rfl, ea, l, ?_⟩
  refine ha w1 d σ _ s1 (e.ext st.x s) ((Pst.of_bind h1).mono (fun us S2 h2 w2 vs eS2 st2 s2 rs => ?_) fun _ _ q => q.up st)
  subst eS2
  obtain ⟨hl, h2⟩ := guard_post h2
  exact ⟨w2, u :: us, rfl, s2, .cons (r.ext st2.x s1) rs, eq_of_beq hl, h2.mono (fun y S3 q w3 v3 e3 st3 s3 r3 => q w3 v3 e3 ((st.trans st2).trans st3) s3 r3) fun x S3 q w3 cls dd e3 st3 s3 xr => q w3 cls dd e3 ((st.trans st2).trans st3) s3 xr⟩
theorem se_meth {pl : Sem Bool} (F : FnOk X.prog X.w X.K X.mg X.base (L2.CX X.prog X.w) k f fd ps (spOf (KMof X) n g)) (hr : Room k X.A) (hx : PasX X Wx) (hm : X.mg c = some (.ref C)) (cl : Cls X.K C) (me : Meth X.K C m f) (hb : Binds X.K fd ps []) (ho : SimE X Wx o fo) (ha : SimA X Wx (e :: es) fa)
    (hst : starEach (e :: es) X.env = (false, eval e X.env) :: starEach es X.env := by rfl) (hpl : (backTo pos (starEach es X.env)).any (·.1) = false := by rfl)
    (ht : eval (.Call (.Attribute o m apos) (e :: es) [] pos) X.env = (do
      let ov ← eval o X.env
      standAt apos.atName
      let (f, first) ← holding [ov] (getMethod ov m pl)
      callWith pos f first (backTo pos (starEach (e :: es) X.env)) (backToKw pos (keywordEach [] X.env))) := by rfl) : SimE X Wx (.Call (.Attribute o m apos) (e :: es) [] pos) (fMeth c m n g fo fa) := by
  obtain ⟨to, po, ho⟩ := ho.out
  obtain ⟨ta, pa, ha⟩ := ha.out
  exact SimE.mk (pe_methSD (pl := pl) po cl me F hr hb hx pa hst hpl ht) (fun w d σ Q s e h => meth_core hm ho ha w d σ Q s e h)
theorem se_meth0 {pl : Sem Bool} (F : FnOk X.prog X.w X.K X.mg X.base (L2.CX X.prog X.w) k f fd ps (spOf (KMof X) n g)) (hr : Room k X.A) (hx : PasX X Wx) (hm : X.mg c = some (.ref C)) (cl : Cls X.K C) (me : Meth X.K C m f) (hb : Binds X.K fd ps []) (ho : SimE X Wx o fo)
    (ht : eval (.Call (.Attribute o m apos) [] [] pos) X.env = (do
      let ov ← eval o X.env
      standAt apos.atName
      let (f, first) ← holding [ov] (getMethod ov m pl)
      callWith pos f first (backTo pos (starEach [] X.env)) (backToKw pos (keywordEach [] X.env))) := by rfl) : SimE X Wx (.Call (.Attribute o m apos) [] [] pos) (fMeth c m n g fo aNil) := by
  obtain ⟨to, po, ho⟩ := ho.out
  exact SimE.mk (pe_methSD0 (pl := pl) po cl me F hr hb hx ht) (fun w d σ Q s e h => meth_core (fa := aNil) hm ho (fun w d σ Q s e h => h w [] rfl (Stp.refl w) s .nil) w d σ Q s e h)
end
def tMakeSD (C : Addr) (sp : Sp) (E : L2.St → XK) (t : TA) : TE := fun σ H Q => t σ H fun vs H1 => ∀ x dx, H1 x = none → H1 dx = none → dx ≠ x → sp (.ref x :: vs) (upd (upd H1 dx (.own x)) x (.ins C dx [])) (fun v H2 => v = .non ∧ Q (.ref x) H2) (E σ)
section
variable {CX : CXT} {k : Nat} {f C : Addr} {fd : FuncData} {ps : List Str} {sp : Sp} {E : L2.St → XK} {x : Str} {p pos : Pos} {e : Expr} {es : List Expr} {t : TA}
theorem run_makeSD {pins : List (Addr × Obj)} {σ : L2.St} {H : Hp} {s : Shared} {Q : VK} {us : List Value} {vs : List V} (M : Mk X.K C f) (F : FnOk X.prog X.w X.K X.mg X.base CX k f fd ps sp) (hr : Room (k + 1) X.A) (hb : Binds X.K fd ps []) (hx : PassesAt CX X σ (E σ)) (hxm : ∀ (pins : List (Addr × Obj)) (H : Hp) (s : Shared) (e : Value) (s' : Shared), Inv X pins σ H s → CX X.stack H s (E σ) e s' → X.xe e s') (I : Inv X pins σ H s) (r : Vals vs us)
    (h : ∀ x dx, H x = none → H dx = none → dx ≠ x → sp (.ref x :: vs) (upd (upd H dx (.own x)) x (.ins C dx [])) (fun v H2 => v = .non ∧ Q (.ref x) H2) (E σ)) : wpAny (model X.prog X.w) X.A (call (.ref C) us) (EP X pins σ Q) X.xe s := by
  have hq := h (s.heap.objs.size + 1) s.heap.objs.size (I.hok.fresh (Nat.le_succ _)) (I.hok.fresh (Nat.le_refl _)) (Nat.ne_of_lt (Nat.lt_succ_self _))
  have J := Inv.made (C := C) I
  have rr : Vals (V.ref (s.heap.objs.size + 1) :: vs) (Value.ref (s.heap.objs.size + 1) :: us) := .cons rfl r
  have hl : (Value.ref (s.heap.objs.size + 1) :: us ++ []).length = ps.length := by
    rw [List.append_nil, ← rr.length]
    exact F.len _ _ _ _ hq
  have bb := hb _ (Value.ref (s.heap.objs.size + 1) :: us) J.kIn hl
  rw [List.append_nil] at bb
  refine wpAny_call (make_map (f := f) I.kIn M.makes M.init (beq_iff_eq.mp M.fn) (codeAny_mono (F.run _ X.stack _ _ _ _ _ _ (E σ) (hr.make C us []) (J.env0.make C us []) bb rr hq) fun rs s' hq' => ?_))
  cases rs with
  | error er => exact hxm pins _ _ er s' J hq'
  | ok fl =>
    cases fl with
    | ret u =>
      obtain ⟨v, H', I3, rv, ev, q3⟩ := J.after hq'
      subst ev
      exact ⟨rv, ⟨V.ref (s.heap.objs.size + 1), H', I3, rfl, q3⟩⟩
    | next => exact False.elim hq'
    | brk => exact False.elim hq'
    | cont => exact False.elim hq'
theorem pe_makeSD0 (M : Mk X.K C f) (F : FnOk X.prog X.w X.K X.mg X.base CX k f fd ps sp) (hr : Room (k + 1) X.A) (hg : Gl X x) (hm : X.mg x = some (.ref C)) (hb : Binds X.K fd ps []) (hx : ∀ σ, PassesAt CX X σ (E σ))
    (hdb : (x == ("__debug__" : Str)) = false) : PE X (.Call (.Name x p) [] [] pos) (tMakeSD C sp E tNil) := by
  refine ⟨fun pins s σ H Q I h => wpAny_Call_Name_kw (ld_glob I hg hm ?_ hdb)⟩
  exact PySem.W.callWith_K0 I.kIn M.kp (run_makeSD (us := []) M F hr hb (hx σ) (fun pins H s e s' I c => hx σ pins H s e s' I c) I .nil h)
end
def fMake (c : Str) (n : Nat) (g : List U → Sto → R U) (fa : FA) : FE := fun d S => (fa d S).bind fun us S1 => guard (us.length + 1 == n) ((g (.loc S1.length :: us) (S1 ++ [.ins c []])).bind fun u S2 => match u with
  | .non => .ok (.loc S1.length) S2
  | _ => .bad)
section
variable {k n : Nat} {f C : Addr} {fd : FuncData} {ps : List Str} {x : Str} {p pos : Pos} {e : Expr} {es : List Expr} {fa : FA} {g : List U → Sto → R U}
theorem make_core {ta : TA} (hm : X.mg x = some (.ref C))
    (ha : ∀ (w : Wd) (d : En) (σ : L2.St) (Q : List V → Hp → Prop), SR (KMof X) w → ER (KMof X) w d σ → Pst (fa d w.S) (OkA X w Q) (XPost X Wx σ w) → ta σ w.H Q)
    (w : Wd) (d : En) (σ : L2.St) (Q : VK) (s : SR (KMof X) w) (e : ER (KMof X) w d σ) (h : Pst (fMake x n g fa d w.S) (OkE X w Q) (XPost X Wx σ w)) :
    tMakeSD C (spOf (KMof X) n g) (fun σ c d H => Wx c d σ H) ta σ w.H Q := by
  refine ha w d σ _ s e ((Pst.of_bind h).mono (fun us S1 h1 w1 vs eS st s1 rs => ?_) fun _ _ q => q)
  subst eS
  obtain ⟨hl, h1⟩ := guard_post h1
  intro a dx na nd hda
  have st1 := Stp.new s1 (o := .own a) nd
  have s2 : SR (KMof X) (w1.new dx (.own a)) := s1.new nd
  have na2 : (w1.new dx (.own a)).H a = none := by show upd w1.H dx _ a = none; rw [upd_ne (Ne.symm hda)]; exact na
  have st2 := Stp.push s2 (o := .ins C dx []) (b := .ins x []) na2
  have s3 : SR (KMof X) ((w1.new dx (.own a)).push a (.ins C dx []) (.ins x [])) := s2.push na2 ⟨C, dx, [], hm, upd_same, .nil⟩
  have hloc : ((w1.new dx (.own a)).push a (.ins C dx []) (.ins x [])).m[w1.S.length]? = some a := by
    show (w1.m ++ [a])[w1.S.length]? = some a
    rw [← s1.len]
    simp
  refine ⟨(w1.new dx (.own a)).push a (.ins C dx []) (.ins x []), .loc w1.S.length :: us, rfl, s3, .cons (.loc hloc) ((rs.ext st1.x s1).ext st2.x s2), eq_of_beq hl, ?_⟩
  refine (Pst.of_bind h1).mono (fun u S2 h2 w3 v e3 st3 s3' rv => ?_) fun y S2 q w3 cls dd e3 st3 s3' xr => q w3 cls dd e3 (((st.trans st1).trans st2).trans st3) s3' xr
  cases rv with
  | non => exact ⟨rfl, h2 w3 (.ref a) e3 (((st.trans st1).trans st2).trans st3) s3' (.loc (st3.x.at hloc))⟩
  | _ => exact h2.elim
theorem se_make0 (F : FnOk X.prog X.w X.K X.mg X.base (L2.CX X.prog X.w) k f fd ps (spOf (KMof X) n g)) (hr : Room (k + 1) X.A) (hx : PasX X Wx) (hg : Gl X x) (hm : X.mg x = some (.ref C)) (M : Mk X.K C f) (hb : Binds X.K fd ps [])
    (hdb : (x == ("__debug__" : Str)) = false := by decide) : SimE X Wx (.Call (.Name x p) [] [] pos) (fMake x n g aNil) :=
  SimE.mk (pe_makeSD0 M F hr hg hm hb hx hdb) (fun w d σ Q s e h => make_core (fa := aNil) hm (fun w d σ Q s e h => h w [] rfl (Stp.refl w) s .nil) w d σ Q s e h)
end
end
def clsM (s : Stmt) (j : Nat) : Stmt := match s with
  | .ClassDef _ _ _ body _ _ _ _ _ _ _ => body.getD j (.Pass ⟨0, 0, 0, 0⟩)
  | s => s
def clB (K : PySem.W.Frag) (C : Addr) : Bool := PySem.W.plainGet K C Str.empty && (PySem.W.hasDictIn K C && (PySem.W.plainOver K C && (decide (PySem.W.findIn K (.ref C) "__setattr__" = some (some (.builtin "object.__setattr__"))) && (PySem.W.makesIn K C && PySem.W.keepIn K (.ref C)))))
theorem cl_mk {K : PySem.W.Frag} {C : Addr} (h : clB K C = true) : Cls K C ∧ PySem.W.makesIn K C = true ∧ PySem.W.keepIn K (.ref C) = true := by
  unfold clB at h
  simp only [Bool.and_eq_true, decide_eq_true_eq] at h
  exact ⟨⟨h.1, h.2.1, h.2.2.1, h.2.2.2.1⟩, h.2.2.2.2.1, h.2.2.2.2.2⟩
def nasB (K : PySem.W.Frag) (C : Addr) (fs : List Str) : Bool := fs.all fun f => decide (PySem.W.findIn K (.ref C) f = some none)
theorem nas_mk {K : PySem.W.Frag} {C : Addr} {fs : List Str} {f : Str} (h : nasB K C fs = true) (hf : f ∈ fs) : NoAttr K C f := show PySem.W.findIn K (.ref C) f = some none from of_decide_eq_true (List.all_eq_true.mp h f hf)
end DL
set_option maxHeartbeats 1000000
namespace DL
open PySem PySem.Calls PySem.W PySem.SeqAt PyProof.Rows
def SrtOk (ds : List PyData) : Prop := (∀ d, d ∈ ds → ∃ xs, d = .tuple xs) ∨ ∀ d, d ∈ ds → d ≠ .none ∧ ∀ xs, d ≠ .tuple xs
section
variable {prog : Program} {w : World} {A : Around} {E : Value → Shared → Prop} {s : Shared}
theorem call_tup_lt {Q : Value → Shared → Prop} {l b : Addr} {items items2 : Array Value} {e r : Nat → Bool} (hl : s.heap.IsTuple l items) (hb : s.heap.IsTuple b items2)
    (he : ∀ j (h1 : j < items.size) (h2 : j < items2.size), EqAt A.in1 s items[j] items2[j] (e j)) (hr : ∀ j (h1 : j < items.size) (h2 : j < items2.size), e j = false → RcLt A.in1 s items[j] items2[j] (r j))
    (h : Q (.bool (firstLt e r (decide (items.size < items2.size)) (List.range (min items.size items2.size)))) s) : wpAny (model prog w) A (call (.builtin "tuple.__lt__") [.ref l, .ref b]) Q E s := by
  obtain ⟨⟨cls, dd, data, sl⟩, ho, hc, n, hd⟩ := id hl
  obtain ⟨⟨cls2, dd2, data2, sl2⟩, ho2, hc2, n2, hd2⟩ := id hb
  simp only at hc hd hc2 hd2
  subst hc hd hc2 hd2
  exact call_meets F.slot_tuple_lt ⟨_, ho, rfl⟩ F.entry_tuple_lt (F.args_tuple_lt_2 _ _) (tuple_ltAt l b items items2 n n2 dd dd2 sl sl2 e r) ⟨ho, ho2, he, hr, h⟩
theorem tup_own {xs ys : List PyData} {a b : Value} {as bs : List Addr} {Q : Bool → Shared → Prop} (ra : Reads s.heap a (.tuple xs) as) (rb : Reads s.heap b (.tuple ys) bs) (hal : alikeAll xs ys = true)
    (hu : A.units + min (PyData.tuple xs).depth (PyData.tuple ys).depth < cLine) (hq : Q (dataLt (.tuple xs) (.tuple ys)) s) : wpAny (model prog w) A (oneLt' true a b) Q E s := by
  cases ra with
  | @tuple l o vs n _ as₁ h1 h2 h3 h4 =>
    cases rb with
    | @tuple l' o' vs' n' _ bs₁ k1 k2 k3 k4 =>
      have n1 : vs.size = xs.length := by simpa using ReadsAll.length _ _ _ h4
      have n2 : vs'.size = ys.length := by simpa using ReadsAll.length _ _ _ k4
      rw [dataLt_tuple, ← firstLt_toks xs ys hal, ← n1, ← n2] at hq
      rw [oneLt'_eq]
      simp only [if_true]
      refine wpAny_bind (wpAny_cRoomFor (room_here hu) ?_)
      refine wpAny_bind (wpAny_callSpecialIfBound?_slot (T := "tuple") ⟨_, h1, h2⟩ F.slot_tuple_lt (call_tup_lt (e := pairEq xs ys) (r := fun j => dataLt (xs.getD j .none) (ys.getD j .none)) ⟨_, h1, h2, _, h3⟩ ⟨_, k1, k2, _, k3⟩ (fun j j1 j2 => ?_) (fun j j1 j2 hj => ?_) ?_))
      · have := eqAt_alikeAll xs ys A.in1 s vs.toList vs'.toList _ _ h4 k4 hal (room_in hu) j (by simpa using j1) (by simpa using j2)
        simpa using this
      · have := rcLt_alikeAll xs ys A.in1 s vs.toList vs'.toList _ _ h4 k4 hal (room_in hu) j (by simpa using j1) (by simpa using j2) hj
        simpa using this
      · exact wpAny_truthy_bool hq
theorem keyLt_gen (x y : Value) : keyLt' general' x y = oneLt' false x y := rfl
theorem firsts_of : ∀ {vs : List Value} {ds : List PyData} {Q : List (Option Value) → Shared → Prop}, EachIs (fun v d => ∃ as, Reads s.heap v d as) vs ds → (∀ d ∈ ds, ∃ xs, d = .tuple xs) →
    (∀ fs : List (Option Value), fs.map Option.isSome = ds.map (fun d => match d with | .tuple (_ :: _) => true | _ => false) → Q fs s) → wpAny (model prog w) A (vs.mapM firstOfTuple') Q E s
  | _, _, Q, .nil, _, h => by rw [List.mapM_nil]; exact wpAny_pure (h [] rfl)
  | _, _, Q, .cons (a := v) (b := d) (as := vs) (bs := ds) ⟨as, r⟩ t, ht, h => by
    obtain ⟨xs, rfl⟩ := ht d List.mem_cons_self
    rw [List.mapM_cons]
    cases r with
    | @tuple a o its n _ _ ho hc hd hr =>
      have hl : its.size = xs.length := by simpa using ReadsAll.length _ _ _ hr
      refine wpAny_bind ?_
      rw [kas_first_eq]
      refine wpAny_bind (Looks.here (show Looks (model prog w) s.heap (typeOf (.ref a)) o.cls from (Looks.ld ho).andThen .now) ?_)
      rw [hc, if_neg (by first | decide | simp)]
      refine wpAny_bind (listItems_at ho hd (wpAny_pure ?_))
      refine wpAny_bind (firsts_of (Q := fun bs s' => wpAny (model prog w) A (pure (its[0]? :: bs)) Q E s') t (fun d hd => ht d (List.mem_cons_of_mem _ hd)) fun fs hf => wpAny_pure (h _ ?_))
      rw [List.map_cons, List.map_cons, hf]
      congr 1
      cases xs with
      | nil =>
        have : its[0]? = none := by rw [Array.getElem?_eq_none_iff, hl]; exact Nat.le_refl _
        rw [this]; rfl
      | cons x r =>
        have : 0 < its.size := by rw [hl]; simp
        rw [Array.getElem?_eq_getElem this]; rfl
theorem sorts_alike {vs : List Value} {ds : List PyData} (e : EachIs (fun v d => ∃ as, Reads s.heap v d as) vs ds) (hal : AllAlike ds) (hk : SrtOk ds) (hu : ∀ d, d ∈ ds → A.units + d.depth < cLine) : SortsAt prog w A s (dataKind s.heap ds) vs := by
  rcases hk with ht | hn
  · by_cases hf : ∀ d, d ∈ ds → ∃ x r, d = .tuple (x :: r)
    · exact SortsAt.data e hal (.inl hf) hu
    · obtain ⟨d0, hd0, hne⟩ : ∃ d0, d0 ∈ ds ∧ d0 = .tuple [] := Classical.byContradiction fun z => hf fun d hd => by
        obtain ⟨xs, rfl⟩ := ht d hd
        cases xs with
        | nil => exact absurd ⟨_, hd, rfl⟩ z
        | cons x r => exact ⟨x, r, rfl⟩
      have room : ∀ {d d' : PyData}, d ∈ ds → A.units + min d.depth d'.depth < cLine := fun {d d'} hd => Nat.lt_of_le_of_lt (Nat.add_le_add_left (Nat.min_le_left _ _) _) (hu d hd)
      refine ⟨fun v hv => ?_, ?_⟩
      · obtain ⟨d, hd, as, r⟩ := e.left v hv
        exact ⟨_, dataKind_some hal hd r⟩
      · cases ds with
        | nil => cases hd0
        | cons d1 ds1 =>
          have notAll : ∀ fs : List (Option Value), fs.map Option.isSome = (d1 :: ds1).map (fun d => match d with | .tuple (_ :: _) => true | _ => false) → ¬ (fs.toArray.all fun x => x.isSome) = true := fun fs hfs z => by
            have z2 : ∀ b ∈ fs.map Option.isSome, b = true := by
              intro b hb
              obtain ⟨x, hx, rfl⟩ := List.mem_map.mp hb
              rw [List.all_toArray, List.all_eq_true] at z
              exact z x hx
            rw [hfs] at z2
            have := z2 _ (List.mem_map.mpr ⟨d0, hd0, rfl⟩)
            rw [hne] at this
            cases this
          obtain ⟨x1, e1⟩ := ht d1 List.mem_cons_self
          by_cases h1 : ∃ y r, x1 = y :: r
          · obtain ⟨y, r, rfl⟩ := h1
            refine ⟨general', ?_, fun h2 E Q hq => ?_⟩
            · intro E x y a b Q ha hb hq
              obtain ⟨d, as, hd, ra, rfl⟩ := dataKind_inv ha
              obtain ⟨d', as', hd', rb, rfl⟩ := dataKind_inv hb
              rw [keyLt_gen]
              exact oneLt_alike (fun z => nomatch z) ra rb (hal d hd d' hd') (by obtain ⟨t, rfl⟩ := ht d hd; intro z; cases z) (room hd) hq
            · rw [kat_kind_eq, List.mapM_toArray, map_eq_pure_bind]
              refine wpAny_bind (wpAny_bind (firsts_of e ht fun fs hfs => wpAny_pure ?_))
              rw [if_neg (notAll fs hfs)]
              have : ((fs.toArray)[0]?.bind id).isSome = true := by
                cases fs with
                | nil => cases hfs
                | cons f fr =>
                  rw [List.map_cons, List.map_cons, e1] at hfs
                  have := (List.cons.inj hfs).1
                  simpa using this
              rw [if_pos this]
              exact wpAny_pure hq
          · refine ⟨oneType', ?_, fun h2 E Q hq => ?_⟩
            · intro E x y a b Q ha hb hq
              obtain ⟨d, as, hd, ra, rfl⟩ := dataKind_inv ha
              obtain ⟨d', as', hd', rb, rfl⟩ := dataKind_inv hb
              obtain ⟨t, rfl⟩ := ht d hd
              obtain ⟨t', rfl⟩ := ht d' hd'
              rw [keyLt'_oneType]
              exact tup_own ra rb (by simpa [alike] using hal _ hd _ hd') (room hd) hq
            · have hx : x1 = [] := by
                cases x1 with
                | nil => rfl
                | cons y r => exact absurd ⟨y, r, rfl⟩ h1
              have hT : ∀ v ∈ vs, Looks (model prog w) s.heap (typeOf v) (.type "tuple") := fun v hv => by
                obtain ⟨d, hd, as, r⟩ := e.left v hv
                obtain ⟨t, rfl⟩ := ht d hd
                exact looks_reads r
              obtain ⟨v1, vr, rfl⟩ : ∃ v1 vr, vs = v1 :: vr := by
                cases vs with
                | nil => simp at h2
                | cons v1 vr => exact ⟨v1, vr, rfl⟩
              rw [kat_kind_eq, List.mapM_toArray, map_eq_pure_bind]
              refine wpAny_bind (wpAny_bind (firsts_of e ht fun fs hfs => wpAny_pure ?_))
              rw [if_neg (notAll fs hfs)]
              have : ¬ ((fs.toArray)[0]?.bind id).isSome = true := by
                cases fs with
                | nil => cases hfs
                | cons f fr =>
                  rw [List.map_cons, List.map_cons, e1, hx] at hfs
                  have := (List.cons.inj hfs).1
                  simpa using this
              rw [if_neg this, oneTypeOnly'_eq, List.mapM_toArray, map_eq_pure_bind]
              refine wpAny_bind (wpAny_bind (wpAny_bind (kas_mapM (r := Value.type "tuple") _ (fun v hv Q' hq => (hT v hv).here hq) (wpAny_pure ?_))))
              have hall : ((List.map (fun _ => Value.type "tuple") (v1 :: vr)).toArray.all fun x => x == Value.type "tuple") = true := by
                simp only [List.all_toArray, List.all_map, List.all_eq_true]
                intro _ _
                exact beq_self_eq_true _
              have h0 : (List.map (fun _ => Value.type "tuple") (v1 :: vr)).toArray[0]? = some (Value.type "tuple") := by simp
              rw [h0]
              simp only [hall, if_true]
              exact wpAny_pure (wpAny_pure hq)
  · exact SortsAt.data e hal (.inr hn) hu
end
end DL
namespace DL
open PySem PySem.Spec L2
def dOf (u : U) : PyData := (toD u).getD .none
def leD (a b : U) : Bool := !PySem.W.dataLt (dOf b) (dOf a)
def sortD (us : List U) : List U := us.mergeSort leD
def fullT : PyData → Bool
  | .tuple _ => true
  | _ => false
def noTup : PyData → Bool
  | .none => false
  | .tuple _ => false
  | _ => true
def sortOk (ds : List PyData) : Bool := (ds.all fun d => ds.all fun e => PySem.W.alike d e) && ((ds.all fullT || ds.all noTup) && ds.all fun d => decide (d.depth ≤ 60))
theorem sortOk_ok {ds : List PyData} (h : sortOk ds = true) : PySem.W.AllAlike ds ∧ SrtOk ds ∧ ∀ d ∈ ds, d.depth ≤ 60 := by
  unfold sortOk at h
  rw [Bool.and_eq_true, Bool.and_eq_true, Bool.or_eq_true] at h
  obtain ⟨h1, h2, h3⟩ := h
  refine ⟨fun d hd e he => List.all_eq_true.mp (List.all_eq_true.mp h1 d hd) e he, ?_, fun d hd => of_decide_eq_true (List.all_eq_true.mp h3 d hd)⟩
  rcases h2 with h2 | h2
  · refine .inl fun d hd => ?_
    have := List.all_eq_true.mp h2 d hd
    cases d with
    | tuple xs => exact ⟨xs, rfl⟩
    | _ => cases this
  · refine .inr fun d hd => ?_
    have := List.all_eq_true.mp h2 d hd
    cases d with
    | none => cases this
    | tuple xs => cases this
    | _ => exact ⟨(by intro z; cases z), (by intro xs z; cases z)⟩
section
variable {X : Cx} {Wx : WX}
def rSortD (X : Cx) : List V → Hp → VK → Prop := fun xs H Q => ∃ (a : Addr) (bs : List (V × PyData)), xs = [.ref a] ∧ SqL X.K H a (bs.map (·.1)) ∧ (∀ b ∈ bs, Dp X.K H b.1 b.2) ∧ PySem.W.AllAlike (bs.map (·.2)) ∧ SrtOk (bs.map (·.2)) ∧ (∀ d ∈ bs.map (·.2), d.depth ≤ 60) ∧
  ∀ p, H p = none → Q (.ref p) (upd H p (.lst ((bs.mergeSort (PySem.W.sortLe (PyProof.Rows.listOrd PyProof.Rows.itemOrd) false fun b => PySem.W.keyToks b.2)).map (·.1))))
theorem each_of {bs : List (V × PyData)} {its : List Value} {R : Value → V × PyData → Prop} (h : ∀ b ∈ bs, ∀ u, RelV b.1 u → R u b) : Vals (bs.map (·.1)) its → PySem.W.EachIs R its bs := by
  intro r
  induction bs generalizing its with
  | nil => cases r; exact .nil
  | cons b bs ih =>
    rw [List.map_cons] at r
    cases r with
    | cons r1 r2 => exact .cons (h b List.mem_cons_self _ r1) (ih (fun c hc => h c (List.mem_cons_of_mem _ hc)) r2)
theorem each_vals {bs : List (V × PyData)} {its : List Value} (h : PySem.W.EachIs (fun u (b : V × PyData) => RelV b.1 u) its bs) : Vals (bs.map (·.1)) its := by
  induction h with
  | nil => exact .nil
  | cons h1 _ ih => exact .cons h1 ih
theorem cr_sortD (hu : X.A.units + 64 < cLine) : CallR X (.builtin "sorted") (rSortD X) := by
  intro pins s σ H xs us Q I r h
  obtain ⟨a, bs, rfl, hq, hd, al, so, dp, q⟩ := h
  rw [Vals.ref1 r]
  obtain ⟨its, rv, hil, hz⟩ := I.list hq
  have hL : its.length ≤ sizeLine := by rw [← rv.length]; exact hz
  have e1 : PySem.W.EachIs (fun u (b : V × PyData) => RelV b.1 u ∧ ∃ as, Reads s.heap u b.2 as) its bs := each_of (fun b hb u ru => ⟨ru, Dp.reads I b.2 b.1 u (hd b hb) ru⟩) rv
  have keep := fun b o e => PySem.W.sorting_copy_old (h := s.heap) (vs := its) (b := b) (o := o) e
  have e2 : PySem.W.EachIs (fun u d => ∃ as, Reads (PySem.W.sortingHeap (PySem.W.copyHeap s.heap its) (s.heap.objs.size + 1) its) u d as) its (bs.map (·.2)) := by
    have go : ∀ {l : List Value} {m : List (V × PyData)}, PySem.W.EachIs (fun u (b : V × PyData) => RelV b.1 u ∧ ∃ as, Reads s.heap u b.2 as) l m → PySem.W.EachIs (fun u d => ∃ as, Reads (PySem.W.sortingHeap (PySem.W.copyHeap s.heap its) (s.heap.objs.size + 1) its) u d as) l (m.map (·.2)) := by
      intro l m h
      induction h with
      | nil => exact .nil
      | cons h1 _ ih => obtain ⟨_, as, ra⟩ := h1; exact .cons ⟨as, PyProof.Rows.Reads.keeps keep ra⟩ ih
    exact go e1
  have S := sorts_alike (prog := X.prog) (w := X.w) (A := X.A.in1.in1) (s := { s with heap := PySem.W.sortingHeap (PySem.W.copyHeap s.heap its) (s.heap.objs.size + 1) its }) e2 al so (fun d hm => by
    have := dp d hm
    show X.A.units + 1 + 1 + d.depth < cLine
    omega)
  refine PySem.W.sorted_vals hil.isList S hL ?_
  have key : PySem.W.EachIs (fun v (b : V × PyData) => (PySem.W.dataKind (PySem.W.sortingHeap (PySem.W.copyHeap s.heap its) (s.heap.objs.size + 1) its) (bs.map (·.2))).keyOf v = some (PySem.W.keyToks b.2)) its bs := by
    have go : ∀ {l : List Value} {m : List (V × PyData)}, (∀ b ∈ m, b ∈ bs) → PySem.W.EachIs (fun u (b : V × PyData) => RelV b.1 u ∧ ∃ as, Reads s.heap u b.2 as) l m → PySem.W.EachIs (fun v (b : V × PyData) => (PySem.W.dataKind (PySem.W.sortingHeap (PySem.W.copyHeap s.heap its) (s.heap.objs.size + 1) its) (bs.map (·.2))).keyOf v = some (PySem.W.keyToks b.2)) l m := by
      intro l m hm h
      induction h with
      | nil => exact .nil
      | @cons u b l m h1 _ ih =>
        obtain ⟨_, as, ra⟩ := h1
        exact .cons (PySem.W.dataKind_some al (List.mem_map.mpr ⟨b, hm b List.mem_cons_self, rfl⟩) (PyProof.Rows.Reads.keeps keep ra)) (ih fun c hc => hm c (List.mem_cons_of_mem _ hc))
    exact go (fun _ h => h) e1
  have out := PySem.W.sortVals_each (κ := PySem.W.dataKind (PySem.W.sortingHeap (PySem.W.copyHeap s.heap its) (s.heap.objs.size + 1) its) (bs.map (·.2))) (rev := false) (fun b : V × PyData => PySem.W.keyToks b.2) (e1.mono fun u b h => h.1) key
  have rvs := each_vals out
  obtain ⟨n, hn⟩ := PyProof.Rows.sortedAll_at s.heap its (PySem.W.sortVals (PySem.W.dataKind (PySem.W.sortingHeap (PySem.W.copyHeap s.heap its) (s.heap.objs.size + 1) its) (bs.map (·.2))) false its its).toArray
  have fr : H (s.heap.objs.size + 1) = none := I.hok.fresh (Nat.le_succ _)
  refine ⟨.ref (s.heap.objs.size + 1), _, I.laid (t' := s.toks) (fun b o e => PyProof.Rows.sortedAll_old e) (Nat.le_succ _) (show ObjOk X.prog X.w _ _ _ (.lst _) from ⟨?_, _, n, rvs, hn⟩), rfl, q _ fr⟩
  rw [rvs.length, PySem.W.sortVals_length _ rfl]
  exact hL
def sortedDC (us : List U) (S : Sto) : R (List U) := match us with
  | [u] => match DL.listOf u S with
    | some xs => match toDs xs with
      | some ds => guard (sortOk ds) (.ok (sortD xs) S)
      | none => .bad
    | none => .bad
  | _ => .bad
theorem trip {w : Wd} : ∀ {us : List U} {xs : List V} {ds : List PyData}, VRs (KMof X) w us xs → toDs us = some ds → ∃ ts : List (U × V × PyData), ts.map (·.1) = us ∧ ts.map (·.2.1) = xs ∧ ts.map (·.2.2) = ds ∧ ∀ t ∈ ts, VR (KMof X) w t.1 t.2.1 ∧ toD t.1 = some t.2.2
  | _, _, _, .nil, h => by cases h; exact ⟨[], rfl, rfl, rfl, fun t ht => by cases ht⟩
  | _, _, _, .cons (u := u) (us := us) r rs, h => by
    unfold toDs at h
    split at h
    · rename_i d ds e1 e2
      cases h
      obtain ⟨ts, h1, h2, h3, h4⟩ := trip rs e2
      refine ⟨(u, _, d) :: ts, by rw [List.map_cons, h1], by rw [List.map_cons, h2], by rw [List.map_cons, h3], fun t ht => ?_⟩
      rcases List.mem_cons.mp ht with rfl | ht
      · exact ⟨r, e1⟩
      · exact h4 t ht
    · cases h
theorem vrs_of {w : Wd} : ∀ {ts : List (U × V × PyData)}, (∀ t ∈ ts, VR (KMof X) w t.1 t.2.1) → VRs (KMof X) w (ts.map (·.1)) (ts.map (·.2.1))
  | [], _ => .nil
  | t :: ts, h => .cons (h t List.mem_cons_self) (vrs_of fun u hu => h u (List.mem_cons_of_mem _ hu))
theorem cl_sortD (hu : X.A.units + 64 < cLine) : CallSimL X (.builtin "sorted") sortedDC := by
  refine ⟨_, cr_sortD hu, fun w us vs Q E s rs h => ?_⟩
  unfold sortedDC at h
  split at h
  · rename_i u
    cases rs with
    | cons r rs =>
      cases rs
      split at h
      · rename_i xs hl
        split at h
        · rename_i ds hd
          obtain ⟨hs, h⟩ := guard_post h
          obtain ⟨al, so, dp⟩ := sortOk_ok hs
          obtain ⟨a, ys, rfl, q, rx⟩ := listOf_ok s r hl
          obtain ⟨ts, h1, h2, h3, h4⟩ := trip rx hd
          have e3 : (ts.map (·.2)).map (·.2) = ds := by rw [List.map_map]; exact h3
          refine ⟨a, ts.map (·.2), rfl, by rw [List.map_map]; exact h2 ▸ q, fun b hb => ?_, by rw [e3]; exact al, by rw [e3]; exact so, by rw [e3]; exact dp, fun p hp => ?_⟩
          · obtain ⟨t, ht, rfl⟩ := List.mem_map.mp hb
            exact toD_ok (h4 t ht).1 (h4 t ht).2
          · have kU : ∀ t ∈ ts, PySem.W.keyToks (dOf t.1) = PySem.W.keyToks t.2.2 := fun t ht => by
              unfold dOf
              rw [(h4 t ht).2]
              rfl
            have m1 : (ts.mergeSort fun a b => leD a.1 b.1).map (·.1) = sortD xs := by
              have z := PySem.W.sort_maps (fun t : U × V × PyData => t.1) (r := fun a b => leD a.1 b.1) (s := leD) (l := ts) fun a _ b _ => rfl
              rw [h1] at z
              exact z
            have m2 : (ts.mergeSort fun a b => leD a.1 b.1).map (·.2) = (ts.map (·.2)).mergeSort (PySem.W.sortLe (PyProof.Rows.listOrd PyProof.Rows.itemOrd) false fun b => PySem.W.keyToks b.2) := by
              refine PySem.W.sort_maps (fun t : U × V × PyData => t.2) fun a ha b hb => ?_
              show (!PyProof.Rows.lexLt PyProof.Rows.itemOrd (PySem.W.keyToks (dOf b.1)) (PySem.W.keyToks (dOf a.1))) = (!PyProof.Rows.lexLt PyProof.Rows.itemOrd (PySem.W.keyToks b.2.2) (PySem.W.keyToks a.2.2))
              rw [kU a ha, kU b hb]
            have v := vrs_of (X := X) (w := w) (ts := ts.mergeSort fun a b => leD a.1 b.1) fun t ht => (h4 t ((List.mergeSort_perm _ _).mem_iff.mp ht)).1
            rw [m1] at v
            rw [← m2, List.map_map]
            exact h w p _ rfl (Stp.refl w) s v hp
        · exact h.elim
      · exact h.elim
  · exact h.elim
end
end DL
namespace DL
open PySem PySem.Spec PyProof.Rows L2
def Mk (m : Nat) : Prop := m = 7 ∨ m = 31 ∨ m = 127 ∨ m = 511 ∨ m = 2047
def metF (m : Nat) : Nat → Nat → Nat → Nat
  | 0, _, acc => acc
  | n + 1, x, acc => metF m n ((x * 5 + 1) % (m + 1)) (acc ||| 2 ^ x)
theorem lcgI_add (m : Nat) : ∀ (k a i : Nat), lcgI m i (a + k) = lcgI m (lcgI m i a) k
  | 0, a, i => rfl
  | k + 1, a, i => by
    show (lcgI m i (a + k) * 5 + 1) % (m + 1) = (lcgI m (lcgI m i a) k * 5 + 1) % (m + 1)
    rw [lcgI_add m k a i]
theorem metF_bit (m j : Nat) : ∀ (n x acc : Nat), (metF m n x acc).testBit j = true → acc.testBit j = true ∨ ∃ k, k < n ∧ lcgI m x k = j
  | 0, x, acc, h => .inl h
  | n + 1, x, acc, h => by
    rcases metF_bit m j n _ _ h with q | ⟨k, hk, e⟩
    · rw [Nat.testBit_or, Bool.or_eq_true] at q
      rcases q with q | q
      · exact .inl q
      · rw [Nat.testBit_two_pow] at q
        exact .inr ⟨0, Nat.succ_pos _, of_decide_eq_true q⟩
    · refine .inr ⟨k + 1, Nat.succ_lt_succ hk, ?_⟩
      rw [Nat.add_comm k 1, lcgI_add]
      exact e
def cycOk (m : Nat) : Bool := metF m (m + 1) 0 0 == 2 ^ (m + 1) - 1 && lcgI m 0 (m + 1) == 0
theorem cyc7 : cycOk 7 = true := by decide +kernel
theorem cyc31 : cycOk 31 = true := by decide +kernel
theorem cyc127 : cycOk 127 = true := by decide +kernel
theorem cyc511 : cycOk 511 = true := by decide +kernel
theorem cyc2047 : cycOk 2047 = true := by decide +kernel
theorem Mk.cyc {m : Nat} (h : Mk m) : cycOk m = true := by
  rcases h with rfl | rfl | rfl | rfl | rfl
  · exact cyc7
  · exact cyc31
  · exact cyc127
  · exact cyc511
  · exact cyc2047
theorem Mk.le {m : Nat} (h : Mk m) : m ≤ 2047 := by rcases h with e | e | e | e | e <;> omega
theorem Mk.from0 {m j : Nat} (h : Mk m) (hj : j ≤ m) : ∃ k, k ≤ m ∧ lcgI m 0 k = j := by
  have c := h.cyc
  unfold cycOk at c
  rw [Bool.and_eq_true, beq_iff_eq, beq_iff_eq] at c
  have b : (metF m (m + 1) 0 0).testBit j = true := by
    rw [c.1, Nat.testBit_two_pow_sub_one]
    exact decide_eq_true (by omega)
  rcases metF_bit m j _ _ _ b with q | ⟨k, hk, e⟩
  · simp at q
  · exact ⟨k, by omega, e⟩
theorem Mk.all {m i j : Nat} (h : Mk m) (hi : i ≤ m) (hj : j ≤ m) : ∃ k, k ≤ m ∧ lcgI m i k = j := by
  have c := h.cyc
  unfold cycOk at c
  rw [Bool.and_eq_true, beq_iff_eq, beq_iff_eq] at c
  obtain ⟨a, ha, ea⟩ := h.from0 hi
  obtain ⟨b, hb, eb⟩ := h.from0 hj
  rcases Nat.lt_or_ge b a with q | q
  · refine ⟨m + 1 - a + b, by omega, ?_⟩
    rw [← ea, ← lcgI_add, show a + (m + 1 - a + b) = (m + 1) + b by omega, lcgI_add, c.2, eb]
  · refine ⟨b - a, by omega, ?_⟩
    rw [← ea, ← lcgI_add, show a + (b - a) = b by omega, eb]
theorem Mk.run {m : Nat} (hm : Mk m) (h : Int) {j : Nat} (hj : j ≤ m) : ∃ n, n ≤ m + 12 ∧ runI m (SetTable.bits h) n = j := by
  obtain ⟨k, hk, e⟩ := hm.all (runI_le m (SetTable.bits h) 12) hj
  exact ⟨12 + k, by omega, (runI_tail (bits_lt h) k).trans e⟩
theorem Mk.meets {m : Nat} (hm : Mk m) (h : Int) {j : Nat} (hj : j ≤ m) : ∃ k, k < 10 * SetTable.turns m ∧ way m h k = j := by
  obtain ⟨n, hn, e⟩ := hm.run h hj
  obtain ⟨k, hk, e2⟩ := run_nth m (SetTable.bits h) n
  refine ⟨k, by unfold SetTable.turns; omega, ?_⟩
  show (nth m (runAt m (SetTable.bits h % (m + 1)) (SetTable.bits h)) k).j = j
  rw [e2]
  exact e
theorem wayLe (m : Nat) (h : Int) (k : Nat) : way m h k ≤ m := by
  have hi : SetTable.bits h % (m + 1) ≤ m := Nat.le_of_lt_succ (Nat.mod_lt _ (Nat.succ_pos _))
  have r := runEnd_bd hi
  have q := nth_in (m := m) k (runAt m (SetTable.bits h % (m + 1)) (SetTable.bits h)) (by
    show SetTable.bits h % (m + 1) + (SetTable.runEnd m (SetTable.bits h % (m + 1)) - SetTable.bits h % (m + 1)) ≤ m
    omega)
  have : way m h k = (nth m (runAt m (SetTable.bits h % (m + 1)) (SetTable.bits h)) k).j := rfl
  omega
structure Tb (t : SetTable) (hs : List Int) : Prop where
  ris : Ris t.place.toList
  dm : t.dummies = #[]
  sz : t.place.toList.length = hs.length
  mok : Mk t.mask
  bd : ∀ x ∈ t.place.toList, x ≤ t.mask
  reach : ∀ (i : Nat) (h : Int) (j : Nat), hs[i]? = some h → t.place.toList[i]? = some j → ∃ k, way t.mask h k = j ∧ ∀ k', k' < k → way t.mask h k' ∈ t.place.toList
theorem Tb.first {t : SetTable} {hs : List Int} (T : Tb t hs) (hl : hs.length ≤ t.mask) (h : Int) : ∃ K, K < 10 * SetTable.turns t.mask ∧ way t.mask h K ∉ t.place.toList ∧ ∀ k, k < K → way t.mask h k ∈ t.place.toList := by
  obtain ⟨j, hj, hn⟩ := st_missing t.place.toList (t.mask + 1) (by rw [T.sz]; omega)
  obtain ⟨k, hk, e⟩ := T.mok.meets h (Nat.le_of_lt_succ hj)
  obtain ⟨K, h1, h2, h3⟩ := st_least (p := fun k => way t.mask h k ∉ t.place.toList) k (by rw [e]; exact hn)
  exact ⟨K, by omega, h2, fun k' hk' => Classical.not_not.mp (h3 k' hk')⟩
theorem Tb.put {t : SetTable} {hs : List Int} (T : Tb t hs) {h : Int} {K j p : Nat} (ej : way t.mask h K = j) (ep : SetTable.below t.place j = p) (hK : j ∉ t.place.toList) (hb : ∀ k, k < K → way t.mask h k ∈ t.place.toList) :
    p ≤ hs.length ∧ Tb (t.put j).1 (hs.take p ++ h :: hs.drop p) ∧ (t.put j).1.fill = hs.length + 1 := by
  have hjm : j ≤ t.mask := ej ▸ wayLe _ _ _
  obtain ⟨c1, _, _⟩ := below_cut T.ris j
  rw [ep, ← Array.length_toList] at c1
  have hph : p ≤ hs.length := by rw [← T.sz]; exact c1
  have hnp : t.place[SetTable.below t.place j]? ≠ some j := fun e => hK (List.mem_of_getElem? (by rw [Array.getElem?_toList]; exact e))
  have hpp := put_place t j
  rw [ep] at hpp
  have hln : (t.put j).1.place.toList.length = hs.length + 1 := by rw [hpp, len_ins _ c1, T.sz]
  refine ⟨hph, ⟨ris_insert T.ris hnp, put_dm T.dm j, by rw [hln, len_ins _ hph], T.mok, fun x hx => ?_, fun i h' j' h1 h2 => ?_⟩, ?_⟩
  · rw [hpp] at hx
    rcases mem_ins.1 hx with z | z
    · rw [z]; exact hjm
    · exact T.bd x z
  · have old : ∀ i0 : Nat, hs[i0]? = some h' → t.place.toList[i0]? = some j' → ∃ k, way t.mask h' k = j' ∧ ∀ k', k' < k → way t.mask h' k' ∈ (t.put j).1.place.toList := fun i0 a b => by
      obtain ⟨k, e, z⟩ := T.reach i0 h' j' a b
      exact ⟨k, e, fun k' hk' => by rw [hpp]; exact mem_ins.2 (.inr (z k' hk'))⟩
    rw [tins_get hs hph] at h1
    rw [hpp, tins_get _ c1] at h2
    show ∃ k, way t.mask h' k = j' ∧ ∀ k', k' < k → way t.mask h' k' ∈ (t.put j).1.place.toList
    by_cases q1 : i < p
    · rw [if_pos q1] at h1 h2
      exact old i h1 h2
    · rw [if_neg q1] at h1 h2
      by_cases q2 : i = p
      · rw [if_pos q2] at h1 h2
        cases h1
        cases h2
        exact ⟨K, ej, fun k' hk' => by rw [hpp]; exact mem_ins.2 (.inr (hb k' hk'))⟩
      · rw [if_neg q2] at h1 h2
        exact old _ h1 h2
  · show (t.put j).1.place.size + (t.put j).1.dummies.size = hs.length + 1
    rw [put_dm T.dm j, ← Array.length_toList, hln]
    rfl
theorem Mk.free {m : Nat} (hm : Mk m) (owner : Array (Option Nat)) (h : Int) {j : Nat} (hj : j ≤ m) (hf : oAt owner j = none) :
    ∃ K, SetTable.layClean.free m owner (SetTable.turns m) (SetTable.bits h % (m + 1)) (SetTable.bits h) = some (way m h K) ∧ oAt owner (way m h K) = none ∧ ∀ k, k < K → oAt owner (way m h k) ≠ none := by
  obtain ⟨n, hn, e⟩ := hm.run h hj
  have hw : way m h (off m (SetTable.bits h % (m + 1)) (SetTable.bits h) n) = j := by
    show (nth m (runAt m (SetTable.bits h % (m + 1)) (SetTable.bits h)) _).j = j
    rw [nth_off, itL_run]
    exact e
  obtain ⟨K, k1, k2, k3⟩ := st_least (p := fun k => oAt owner (way m h k) = none) _ (by rw [hw]; exact hf)
  refine ⟨K, free_spec m owner (SetTable.turns m) n _ _ K (by unfold SetTable.turns; omega) k1 (fun k hk => ?_) ?_, k2, k3⟩
  · cases z : oAt owner (nth m (runAt m (SetTable.bits h % (m + 1)) (SetTable.bits h)) k).j with
    | none => exact absurd z (k3 k hk)
    | some _ => rfl
  · exact Option.isNone_iff_eq_none.mpr k2
end DL
set_option maxHeartbeats 4000000
namespace DL
open PySem PySem.Spec PyProof.Rows L2
abbrev NI (h : Heap) (k : NestedKey) (a : Addr) : Prop := NestedIs h k (.ref a) ∧ k.depth ≤ 8
theorem NI.keep {h h' : Heap} {k : NestedKey} {a : Addr} (x : NI h k a) (hk : ∀ b o, h.get? b = some o → h'.get? b = some o) : NI h' k a := ⟨NestedIs.at (fun b o _ _ e _ => hk b o e) _ _ x.1, x.2⟩
theorem NI.same {h h' : Heap} {k : NestedKey} {a b : Addr} {o : Obj} {es : Array (Int × Value)} {ep : Nat} {t : SetTable} (x : NI h k b) (ho : h.get? a = some o) (hd : o.data = .set es ep t) (hs : Heap.SameBut a h h') : NI h' k b :=
  ⟨NestedIs.at (fun c oc vs n hc hv => (hs.2 c fun e => by
    subst e
    rw [ho] at hc
    cases hc
    rw [hd] at hv
    cases hv).trans hc) _ _ x.1, x.2⟩
section
variable {P : Program} {w : World}
def Bare (P : Program) (w : World) (n : Nat) (s : Shared) (v : Value) : Prop := ∀ (A : Around) (E : Value → Shared → Prop) (Q : Bool → Shared → Prop), Q false s → wpAny (model P w) A (ofAClassStatement n v) Q E s
theorem Bare.val {n : Nat} {s : Shared} {v : Value} (e : ofAClassStatement n v = pure false) : Bare P w n s v := fun A E Q h => by rw [e]; exact wpAny_pure h
theorem Bare.tup {n : Nat} {s : Shared} {a : Addr} {o : Obj} {vs : Array Value} {m : Nat} (ho : s.heap.get? a = some o) (hc : o.cls = .type "tuple") (hd : o.data = .seq vs m) (hq : ∀ v ∈ vs.toList, Bare P w n s v) : Bare P w (n + 1) s (.ref a) := fun A E Q h => by
  have hT : s.TypeIs (.ref a) "tuple" := ⟨o, ho, hc⟩
  unfold ofAClassStatement
  refine wpAny_bind (wpAny_typeOf hT ?_)
  dsimp only
  have e : (("tuple" : String) == "tuple") = true := by decide
  simp only [e, if_true, Bool.not_true, Bool.false_eq_true, if_false]
  try refine wpAny_bind (wpAny_pure ?_)
  try simp only [Bool.not_true, Bool.false_eq_true, if_false]
  show wpAny _ _ (seqItems? (.ref a) >>= _) _ _ s
  refine wpAny_bind (wpAny_seqItems ho hd ?_)
  dsimp only
  refine wpAny_bind ?_
  show wpAny _ _ (forIn vs _ _) _ _ s
  rw [← Array.forIn_toList]
  refine wpAny_forIn_list _ (fun rest r s' => r.1 = none ∧ s' = s ∧ ∀ v ∈ rest, Bare P w n s v) _ ?_ ?_ _ _ ⟨rfl, rfl, hq⟩
  · rintro v rest r s' ⟨hr, rfl, hall⟩
    refine wpAny_bind (hall v List.mem_cons_self _ _ _ ?_)
    simp only [Bool.false_eq_true, if_false]
    exact wpAny_pure ⟨rfl, rfl, fun u hu' => hall u (List.mem_cons_of_mem _ hu')⟩
  · rintro ⟨r1, r2⟩ s' ⟨hr, rfl, _⟩
    simp only at hr
    subst hr
    exact wpAny_pure h
mutual
theorem bare_key : ∀ (k : NestedKey) (v : Value) (n : Nat) (s : Shared), NestedIs s.heap k v → k.depth ≤ n → Bare P w n s v
  | .none, _, n, s, x, _ => by cases x; exact .val (by cases n <;> rfl)
  | .num i, _, n, s, x, _ => by cases x <;> exact .val (by cases n <;> rfl)
  | .text y, _, n, s, x, _ => by cases x; exact .val (by cases n <;> rfl)
  | .tup ks, _, n, s, x, hn => by
    cases x with
    | tup hg hc hd hk =>
      simp only [NestedKey.depth] at hn
      cases n with
      | zero => omega
      | succ n => exact .tup hg hc hd (bare_keys ks _ n s hk (by omega))
theorem bare_keys : ∀ (ks : List NestedKey) (vs : List Value) (n : Nat) (s : Shared), NestedAll s.heap ks vs → NestedKey.depthAll ks ≤ n → ∀ v ∈ vs, Bare P w n s v
  | [], _, n, s, x, _, v, hv => by cases x; cases hv
  | k :: ks, _, n, s, x, hn, v, hv => by
    cases x with
    | cons x1 x2 =>
      simp only [NestedKey.depthAll] at hn
      rcases List.mem_cons.mp hv with e | hv
      · rw [e]; exact bare_key k _ n s x1 (by omega)
      · exact bare_keys ks _ n s x2 (by omega) v hv
end
def HbT (P : Program) (w : World) (n : Nat) (s : Shared) (v : Value) : Prop := ∀ (A : Around) (E : Value → Shared → Prop) (Q : Bool → Shared → Prop), (∀ b, Q b s) → wpAny (model P w) A (hashByValue n v) Q E s
theorem HbT.val {n : Nat} {s : Shared} {v : Value} {b : Bool} (e : hashByValue n v = pure b) : HbT P w n s v := fun A E Q h => by rw [e]; exact wpAny_pure (h b)
theorem HbT.tup {n : Nat} {s : Shared} {a : Addr} {o : Obj} {vs : Array Value} {m : Nat} (ho : s.heap.get? a = some o) (hc : o.cls = .type "tuple") (hd : o.data = .seq vs m) (hq : ∀ v ∈ vs.toList, HbT P w n s v) : HbT P w (n + 1) s (.ref a) := fun A E Q h => by
  have hT : s.TypeIs (.ref a) "tuple" := ⟨o, ho, hc⟩
  unfold hashByValue
  refine wpAny_bind (wpAny_specialOf hT F.slot_tuple_hash.lookup ?_)
  show wpAny _ _ (seqItems? (.ref a) >>= _) _ _ s
  refine wpAny_bind (wpAny_seqItems ho hd ?_)
  refine wpAny_bind ?_
  show wpAny _ _ (forIn vs _ _) _ _ s
  rw [← Array.forIn_toList]
  refine wpAny_forIn_list _ (fun rest r s' => r.1 = none ∧ s' = s ∧ ∀ v ∈ rest, HbT P w n s v) _ ?_ ?_ _ _ ⟨rfl, rfl, hq⟩
  · rintro v rest r s' ⟨hr, rfl, hall⟩
    refine wpAny_bind (hall v List.mem_cons_self _ _ _ fun b => ?_)
    cases b with
    | true =>
      simp only [Bool.not_true, Bool.false_eq_true, if_false]
      exact wpAny_pure ⟨rfl, rfl, fun u hu' => hall u (List.mem_cons_of_mem _ hu')⟩
    | false =>
      simp only [Bool.not_false, if_true]
      exact wpAny_pure (wpAny_pure (h false))
  · rintro ⟨r1, r2⟩ s' ⟨hr, rfl, _⟩
    simp only at hr
    subst hr
    exact wpAny_pure (h true)
mutual
theorem hb_key : ∀ (k : NestedKey) (v : Value) (n : Nat) (s : Shared), NestedIs s.heap k v → HbT P w n s v
  | .none, _, n, s, x => by cases x; exact .val (b := true) (by cases n <;> rfl)
  | .num i, _, n, s, x => by cases x <;> exact .val (b := true) (by cases n <;> rfl)
  | .text y, _, n, s, x => by cases x; exact .val (b := false) (by cases n <;> rfl)
  | .tup ks, _, n, s, x => by
    cases x with
    | tup hg hc hd hk =>
      cases n with
      | zero => exact .val (b := false) rfl
      | succ n => exact .tup hg hc hd (hb_keys ks _ n s hk)
theorem hb_keys : ∀ (ks : List NestedKey) (vs : List Value) (n : Nat) (s : Shared), NestedAll s.heap ks vs → ∀ v ∈ vs, HbT P w n s v
  | [], _, n, s, x, v, hv => by cases x; cases hv
  | k :: ks, _, n, s, x, v, hv => by
    cases x with
    | cons x1 x2 =>
      rcases List.mem_cons.mp hv with e | hv
      · rw [e]; exact hb_key k _ n s x1
      · exact hb_keys ks _ n s x2 v hv
end
end
section
variable {P : Program} {w : World} {A : Around} {E : Value → Shared → Prop} {s : Shared}
abbrev rowsN (w : World) (L : List (Addr × NestedKey)) : List (Int × Value) := L.map fun p => (p.2.hash w, Value.ref p.1)
structure SN (w : World) (h : Heap) (a : Addr) (L : List (Addr × NestedKey)) (es : Array (Int × Value)) (ep : Nat) (t : SetTable) : Prop where
  ob : ∃ o, h.get? a = some o ∧ o.ExactSet ∧ o.data = .set es ep t
  rows : es.toList = rowsN w L
  tab : Tb t (L.map fun p => p.2.hash w)
  nd : (L.map (·.2)).Nodup
  key : ∀ p ∈ L, NI h p.2 p.1
  led : w.params.followText "set-order" = true ∨ t.led = true
  room : L.length * 5 < t.mask * 3
  few : L.length ≤ 1000
variable {a : Addr} {L : List (Addr × NestedKey)} {es : Array (Int × Value)} {ep : Nat} {t : SetTable}
theorem rows_size {L : List (Addr × NestedKey)} {es : Array (Int × Value)} (r : es.toList = rowsN w L) : es.size = L.length := by
  have h := congrArg List.length r
  simpa using h
theorem tb_fits {hs : List Int} {n : Nat} (T : Tb t hs) (hn : n = hs.length) (hm : hs.length ≤ t.mask) : t.fits n = true := by
  unfold SetTable.fits SetTable.fill
  have h1 := T.sz
  rw [Array.length_toList] at h1
  rw [T.dm, Bool.and_eq_true, beq_iff_eq, decide_eq_true_eq]
  show t.place.size = n ∧ t.place.size + 0 ≤ t.mask
  omega
theorem SN.fits (R : SN w s.heap a L es ep t) : t.fits es.size = true :=
  tb_fits R.tab (by rw [rows_size R.rows, List.length_map]) (by rw [List.length_map]; have := R.room; omega)
theorem SN.entry (R : SN w s.heap a L es ep t) {i : Nat} {p : Addr × NestedKey} (h : L[i]? = some p) : es[i]? = some (p.2.hash w, Value.ref p.1) := by
  rw [← Array.getElem?_toList, R.rows, List.getElem?_map, h]
  rfl
end
end DL
set_option maxHeartbeats 4000000
namespace DL
open PySem PySem.Spec PyProof.Rows L2
section
variable {P : Program} {w : World} {A : Around} {E : Value → Shared → Prop} {s : Shared}
variable {a : Addr} {L : List (Addr × NestedKey)} {es : Array (Int × Value)} {ep : Nat} {t : SetTable}
end
end DL
set_option maxHeartbeats 4000000
namespace DL
open PySem PySem.Spec PyProof.Rows L2
structure Gt (ks : List (Addr × NestedKey)) (i : Nat) (L : List (Addr × NestedKey)) : Prop where
  sub : ∀ p ∈ L, p ∈ ks.take i
  all : ∀ p ∈ ks.take i, p.2 ∈ L.map (·.2)
  len : L.length ≤ i
theorem Gt.step {ks L L' : List (Addr × NestedKey)} {i : Nat} {x : Addr × NestedKey} (g : Gt ks i L) (h : ks[i]? = some x) (c1 : x.2 ∈ L.map (·.2) → L' = L) (c2 : x.2 ∉ L.map (·.2) → L'.Perm (x :: L)) : Gt ks (i + 1) L' := by
  have e : ks.take (i + 1) = ks.take i ++ [x] := by rw [List.take_succ, h]; rfl
  by_cases hm : x.2 ∈ L.map (·.2)
  · rw [c1 hm]
    refine ⟨fun p hp => by rw [e]; exact List.mem_append_left _ (g.sub p hp), fun p hp => ?_, Nat.le_succ_of_le g.len⟩
    rw [e] at hp
    rcases List.mem_append.mp hp with z | z
    · exact g.all p z
    · rw [List.mem_singleton.mp z]; exact hm
  · have pm := c2 hm
    refine ⟨fun p hp => ?_, fun p hp => ?_, by rw [pm.length_eq]; exact Nat.succ_le_succ g.len⟩
    · rw [e]
      rcases List.mem_cons.mp (pm.mem_iff.mp hp) with z | z
      · rw [z]; exact List.mem_append_right _ (List.mem_singleton.mpr rfl)
      · exact List.mem_append_left _ (g.sub p z)
    · rw [(pm.map (·.2)).mem_iff, List.map_cons]
      rw [e] at hp
      rcases List.mem_append.mp hp with z | z
      · exact List.mem_cons_of_mem _ (g.all p z)
      · rw [List.mem_singleton.mp z]; exact List.mem_cons_self
section
variable {P : Program} {w : World} {A : Around} {E : Value → Shared → Prop} {s : Shared}
theorem SN.keep {h h' : Heap} {a : Addr} {L : List (Addr × NestedKey)} {es : Array (Int × Value)} {ep : Nat} {t : SetTable} (R : SN w h a L es ep t) (ha : ∀ o, h.get? a = some o → h'.get? a = some o) (hk : ∀ p ∈ L, NI h' p.2 p.1) : SN w h' a L es ep t := by
  obtain ⟨o, ho, r⟩ := R.ob
  exact ⟨⟨o, ha o ho, r⟩, R.rows, R.tab, R.nd, hk, R.led, R.room, R.few⟩
end
end DL
set_option maxHeartbeats 4000000
namespace DL
open PySem PySem.Spec PyProof.Rows L2
mutual
def keyD : PyData → Option NestedKey
  | .none => some .none
  | .bool b => some (.num (if b = true then 1 else 0))
  | .int i => some (.num i)
  | .str x => some (.text x)
  | .tuple xs => (keyDs xs).map .tup
  | .list _ => none
  | .dict _ => none
def keyDs : List PyData → Option (List NestedKey)
  | [] => some []
  | d :: ds => match keyD d, keyDs ds with
    | some k, some ks => some (k :: ks)
    | _, _ => none
end
mutual
theorem reads_key {h : Heap} : ∀ (d : PyData) {v : Value} {as : List Addr} {k : NestedKey}, Reads h v d as → keyD d = some k → NestedIs h k v
  | .none, _, _, _, r, e => by unfold keyD at e; cases e; cases r; exact .none
  | .bool b, _, _, _, r, e => by unfold keyD at e; cases e; cases r; exact .bool rfl
  | .int i, _, _, _, r, e => by unfold keyD at e; cases e; cases r; exact .int _ _
  | .str x, _, _, _, r, e => by unfold keyD at e; cases e; cases r; exact .text _ _
  | .tuple xs, _, _, _, r, e => by
    unfold keyD at e
    cases q : keyDs xs with
    | none => rw [q] at e; cases e
    | some ks =>
      rw [q] at e
      cases e
      cases r with
      | tuple h1 h2 h3 h4 => exact .tup h1 h2 h3 (reads_keys xs h4 q)
  | .list _, _, _, _, _, e => by unfold keyD at e; cases e
  | .dict _, _, _, _, _, e => by unfold keyD at e; cases e
theorem reads_keys {h : Heap} : ∀ (ds : List PyData) {vs : List Value} {as : List Addr} {ks : List NestedKey}, ReadsAll h vs ds as → keyDs ds = some ks → NestedAll h ks vs
  | [], _, _, _, r, e => by unfold keyDs at e; cases e; cases r; exact .nil
  | d :: ds, _, _, _, r, e => by
    unfold keyDs at e
    split at e
    · rename_i k ks e1 e2
      cases e
      cases r with
      | cons r1 r2 => exact .cons (reads_key d r1 e1) (reads_keys ds r2 e2)
    · cases e
end
structure SN0 (w : World) (h : Heap) (a : Addr) (L : List (Addr × NestedKey)) : Prop where
  ex : ∃ (es : Array (Int × Value)) (ep : Nat) (t : SetTable), (∃ o, h.get? a = some o ∧ o.ExactSet ∧ o.data = .set es ep t) ∧ es.toList = rowsN w L ∧ Tb t (L.map fun p => p.2.hash w) ∧ (L.map (·.2)).Nodup ∧
    (w.params.followText "set-order" = true ∨ t.led = true) ∧ L.length * 5 < t.mask * 3 ∧ L.length ≤ 1000
theorem SN.s0 {w : World} {h : Heap} {a : Addr} {L : List (Addr × NestedKey)} {es : Array (Int × Value)} {ep : Nat} {t : SetTable} (R : SN w h a L es ep t) : SN0 w h a L := ⟨es, ep, t, R.ob, R.rows, R.tab, R.nd, R.led, R.room, R.few⟩
theorem SN0.keep {w : World} {h h' : Heap} {a : Addr} {L : List (Addr × NestedKey)} (R : SN0 w h a L) (k : ∀ o, h.get? a = some o → h'.get? a = some o) : SN0 w h' a L := by
  obtain ⟨es, ep, t, ⟨o, ho, r⟩, q⟩ := R.ex
  exact ⟨es, ep, t, ⟨o, k o ho, r⟩, q⟩
section
variable {X : Cx}
end
end DL
set_option maxHeartbeats 1000000
namespace DL
open PySem PySem.Spec L2
mutual
theorem eqv_eq : ∀ (x y : PyData) {k : NestedKey}, PySem.W.alike x y = true → PyData.eqv x y = true → keyD x = some k → x = y
  | .none, y, _, h, _, _ => by cases y <;> first | rfl | (simp [PySem.W.alike] at h)
  | .bool a, y, _, h, e, _ => by cases y <;> first | (simp [PySem.W.alike] at h; done) | (simp [PyData.eqv] at e; rw [e])
  | .int a, y, _, h, e, _ => by cases y <;> first | (simp [PySem.W.alike] at h; done) | (simp [PyData.eqv] at e; rw [e])
  | .str a, y, _, h, e, _ => by cases y <;> first | (simp [PySem.W.alike] at h; done) | (simp [PyData.eqv] at e; rw [e])
  | .tuple xs, y, k, h, e, q => by
    cases y with
    | tuple ys =>
      unfold keyD at q
      cases q2 : keyDs xs with
      | none => rw [q2] at q; cases q
      | some ks => rw [eqv_eqs xs ys (by simpa [PySem.W.alike] using h) (by simpa [PyData.eqv] using e) q2]
    | _ => simp [PySem.W.alike] at h
  | .list _, _, _, _, _, q => by unfold keyD at q; cases q
  | .dict _, _, _, _, _, q => by unfold keyD at q; cases q
theorem eqv_eqs : ∀ (xs ys : List PyData) {ks : List NestedKey}, PySem.W.alikeAll xs ys = true → PyData.eqvAll xs ys = true → keyDs xs = some ks → xs = ys
  | [], [], _, _, _, _ => rfl
  | [], _ :: _, _, _, e, _ => by simp [PyData.eqvAll] at e
  | _ :: _, [], _, _, e, _ => by simp [PyData.eqvAll] at e
  | x :: xs, y :: ys, _, h, e, q => by
    rw [PySem.W.eqv_all_cons, Bool.and_eq_true] at e
    unfold keyDs at q
    split at q
    · rename_i k ks q1 q2
      rw [eqv_eq x y (PySem.W.alike_all_cons h).1 e.1 q1, eqv_eqs xs ys (PySem.W.alike_all_cons h).2 e.2 q2]
    · cases q
end
mutual
theorem toD_inj : ∀ (u u' : U) {d : PyData} {k : NestedKey}, toD u = some d → toD u' = some d → keyD d = some k → u = u'
  | .non, u', d, _, h1, h2, _ => by
    unfold toD at h1; cases h1
    cases u' <;> (unfold toD at h2) <;> first | rfl | (cases h2) | (simp at h2)
  | .bl b, u', d, _, h1, h2, _ => by
    unfold toD at h1; cases h1
    cases u' <;> (unfold toD at h2) <;> first | (cases h2; rfl) | (cases h2) | (simp at h2)
  | .int b, u', d, _, h1, h2, _ => by
    unfold toD at h1; cases h1
    cases u' <;> (unfold toD at h2) <;> first | (cases h2; rfl) | (cases h2) | (simp at h2)
  | .str b, u', d, _, h1, h2, _ => by
    unfold toD at h1; cases h1
    cases u' <;> (unfold toD at h2) <;> first | (cases h2; rfl) | (cases h2) | (simp at h2)
  | .tup us, u', d, k, h1, h2, q => by
    unfold toD at h1
    obtain ⟨ds, e1, rfl⟩ := Option.map_eq_some_iff.mp h1
    cases u' with
    | tup us' =>
      unfold toD at h2
      obtain ⟨ds', e2, e3⟩ := Option.map_eq_some_iff.mp h2
      cases e3
      unfold keyD at q
      obtain ⟨ks, q1, _⟩ := Option.map_eq_some_iff.mp q
      rw [toDs_inj us us' e1 e2 q1]
    | lst us' => unfold toD at h2; obtain ⟨ds', e2, e3⟩ := Option.map_eq_some_iff.mp h2; cases e3
    | frz us' => unfold toD at h2; obtain ⟨ds', e2, e3⟩ := Option.map_eq_some_iff.mp h2; cases e3
    | _ => unfold toD at h2; cases h2
  | .lst us, u', d, k, h1, h2, q => by
    unfold toD at h1
    obtain ⟨ds, e1, rfl⟩ := Option.map_eq_some_iff.mp h1
    unfold keyD at q; cases q
  | .frz us, u', d, k, h1, h2, q => by
    unfold toD at h1
    obtain ⟨ds, e1, rfl⟩ := Option.map_eq_some_iff.mp h1
    unfold keyD at q; cases q
  | .dic _ _, _, _, _, h1, _, _ => by unfold toD at h1; cases h1
  | .loc _, _, _, _, h1, _, _ => by unfold toD at h1; cases h1
  | .ty _, _, _, _, h1, _, _ => by unfold toD at h1; cases h1
  | .exc _ _ _, _, _, _, h1, _, _ => by unfold toD at h1; cases h1
  | .cl _, _, _, _, h1, _, _ => by unfold toD at h1; cases h1
theorem toDs_inj : ∀ (us us' : List U) {ds : List PyData} {ks : List NestedKey}, toDs us = some ds → toDs us' = some ds → keyDs ds = some ks → us = us'
  | [], us', ds, _, h1, h2, _ => by
    unfold toDs at h1; cases h1
    cases us' with
    | nil => rfl
    | cons u us => unfold toDs at h2; split at h2 <;> cases h2
  | u :: us, us', ds, ks, h1, h2, q => by
    unfold toDs at h1
    split at h1
    · rename_i d ds1 e1 e2
      cases h1
      cases us' with
      | nil => unfold toDs at h2; cases h2
      | cons u' us' =>
        unfold toDs at h2
        split at h2
        · rename_i d' ds' f1 f2
          cases h2
          unfold keyDs at q
          split at q
          · rename_i k ks q1 q2
            rw [toD_inj u u' e1 f1 q1, toDs_inj us us' e2 f2 q2]
          · cases q
        · cases h2
    · cases h1
end
mutual
theorem key_data : ∀ (x y : PyData) {k : NestedKey}, PySem.W.alike x y = true → keyD x = some k → keyD y = some k → x = y
  | .none, y, _, h, _, _ => by cases y <;> first | rfl | (simp [PySem.W.alike] at h)
  | .bool a, y, _, h, e, q => by
    cases y <;> first | (simp [PySem.W.alike] at h; done) | skip
    rename_i b
    unfold keyD at e q
    cases e
    cases a <;> cases b <;> first | rfl | (simp at q)
  | .int a, y, _, h, e, q => by
    cases y <;> first | (simp [PySem.W.alike] at h; done) | skip
    unfold keyD at e q
    cases e
    cases q
    rfl
  | .str a, y, _, h, e, q => by
    cases y <;> first | (simp [PySem.W.alike] at h; done) | skip
    unfold keyD at e q
    cases e
    cases q
    rfl
  | .tuple xs, y, k, h, e, q => by
    cases y with
    | tuple ys =>
      unfold keyD at e q
      obtain ⟨ks, e1, rfl⟩ := Option.map_eq_some_iff.mp e
      obtain ⟨ks', e2, e3⟩ := Option.map_eq_some_iff.mp q
      cases e3
      rw [keys_data xs ys (by simpa [PySem.W.alike] using h) e1 e2]
    | _ => simp [PySem.W.alike] at h
  | .list _, _, _, _, e, _ => by unfold keyD at e; cases e
  | .dict _, _, _, _, e, _ => by unfold keyD at e; cases e
theorem keys_data : ∀ (xs ys : List PyData) {ks : List NestedKey}, PySem.W.alikeAll xs ys = true → keyDs xs = some ks → keyDs ys = some ks → xs = ys
  | [], [], _, _, _, _ => rfl
  | [], y :: ys, _, _, e, q => by
    unfold keyDs at e q
    cases e
    split at q <;> cases q
  | x :: xs, [], _, _, e, q => by
    unfold keyDs at e q
    cases q
    split at e <;> cases e
  | x :: xs, y :: ys, _, h, e, q => by
    unfold keyDs at e q
    split at e
    · rename_i k ks q1 q2
      cases e
      split at q
      · rename_i k' ks' p1 p2
        cases q
        rw [key_data x y (PySem.W.alike_all_cons h).1 q1 p1, keys_data xs ys (PySem.W.alike_all_cons h).2 q2 p2]
      · cases q
    · cases e
end
end DL
set_option maxHeartbeats 1000000
namespace DL
open PySem PySem.Spec L2
def alt {α : Type} (a b : R α) : R α := match a with
  | .bad => b
  | .ok x S => .ok x S
  | .exc x S => .exc x S
theorem pst_alt {α : Type} {a b : R α} {P : α → Sto → Prop} {E : Exc → Sto → Prop} (h : Pst (alt a b) P E) : Pst a P E ∨ Pst b P E := by
  cases a with
  | bad => exact .inr h
  | ok x S => exact .inl h
  | exc x S => exact .inl h
section
variable {X : Cx} {Wx : WX}
theorem CallSimL.alt {f : Value} {g1 g2 : List U → Sto → R (List U)} (h1 : CallSimL X f g1) (h2 : CallSimL X f g2) : CallSimL X f (fun us S => DL.alt (g1 us S) (g2 us S)) := by
  obtain ⟨r1, c1, k1⟩ := h1
  obtain ⟨r2, c2, k2⟩ := h2
  refine ⟨_, c1.or c2, fun w us vs Q E s rs h => ?_⟩
  rcases pst_alt h with q | q
  · exact .inl (k1 w us vs Q E s rs q)
  · exact .inr (k2 w us vs Q E s rs q)
def sortedA (us : List U) (S : Sto) : R (List U) := alt (sortedC us S) (sortedDC us S)
theorem cl_sortedA (hc : X.calm = true) (hu : X.A.units + 64 < cLine) : CallSimL X (.builtin "sorted") sortedA := (cl_sorted hc).alt (cl_sortD hu)
end
end DL
set_option maxHeartbeats 1000000
namespace DL
open PySem PySem.Spec L2 PyProof.Rows HT
section
variable {X : Cx} {Wx : WX}
theorem noX_alt {a b : R U} (h1 : noX a) (h2 : noX b) : noX (alt a b) := by
  cases a with
  | bad => exact h2
  | ok x S => trivial
  | exc x S => exact h1
theorem CallSim.alt {f : Value} {g1 g2 : List U → Sto → R U} (h1 : CallSim X f g1) (h2 : CallSim X f g2) : CallSim X f (fun us S => DL.alt (g1 us S) (g2 us S)) := by
  obtain ⟨r1, c1, n1, k1⟩ := h1
  obtain ⟨r2, c2, n2, k2⟩ := h2
  refine ⟨_, c1.or c2, fun us S => noX_alt (n1 us S) (n2 us S), fun w us vs Q s rs h => ?_⟩
  rcases pst_alt h with q | q
  · exact .inl (k1 w us vs Q s rs q)
  · exact .inr (k2 w us vs Q s rs q)
theorem MtSim.alt {id : String} {g1 g2 : U → List U → Sto → R U} (h1 : MtSim X id g1) (h2 : MtSim X id g2) : MtSim X id (fun u us S => DL.alt (g1 u us S) (g2 u us S)) := by
  obtain ⟨r1, c1, n1, k1⟩ := h1
  obtain ⟨r2, c2, n2, k2⟩ := h2
  refine ⟨_, MtR.or c1 c2, fun u us S => noX_alt (n1 u us S) (n2 u us S), fun w u us v vs Q s r rs h => ?_⟩
  rcases pst_alt h with q | q
  · exact .inl (k1 w u us v vs Q s r rs q)
  · exact .inr (k2 w u us v vs Q s r rs q)
theorem OpSim.alt {F : Value → Value → Sem Value} {g1 g2 : U → U → Sto → R U} (h1 : OpSim X F g1) (h2 : OpSim X F g2) : OpSim X F (fun x y S => DL.alt (g1 x y S) (g2 x y S)) := by
  obtain ⟨r1, c1, k1⟩ := h1
  obtain ⟨r2, c2, k2⟩ := h2
  refine ⟨_, c1.or c2, fun w x y v v' Q s rx ry h => ?_⟩
  rcases pst_alt h with q | q
  · exact .inl (k1 w x y v v' Q s rx ry q)
  · exact .inr (k2 w x y v v' Q s rx ry q)
def popLM (u : U) (us : List U) (S : Sto) : R U := match u, us with
  | .loc n, [] => match S[n]? with
    | some (.lst xs) => match xs[xs.length - 1]? with
      | some y => .ok y (S.set n (.lst xs.dropLast))
      | none => .bad
    | _ => .bad
  | .loc n, [.int i] => match S[n]? with
    | some (.lst xs) => match seqIndex? i xs.length with
      | some k => match xs[k]? with
        | some y => guard (decide (-(2 ^ 63) ≤ i) && decide (i < 2 ^ 63)) (.ok y (S.set n (.lst (xs.eraseIdx k))))
        | none => .bad
      | none => .bad
    | _ => .bad
  | _, _ => .bad
theorem vrs_erase {w : Wd} : ∀ {us : List U} {vs : List V} (k : Nat), VRs (KMof X) w us vs → VRs (KMof X) w (us.eraseIdx k) (vs.eraseIdx k)
  | _, _, _, .nil => .nil
  | _, _, 0, .cons _ rs => rs
  | _, _, k + 1, .cons r rs => .cons r (vrs_erase k rs)
theorem vrs_dropLast {w : Wd} {us : List U} {vs : List V} (h : VRs (KMof X) w us vs) : VRs (KMof X) w us.dropLast vs.dropLast := by
  rw [List.dropLast_eq_take, List.dropLast_eq_take, h.length]
  exact h.take _
theorem ms_popL : MtSim X "list.pop" popLM := by
  refine ⟨_, MtR.or mt_pop mt_popAt, fun u us S => ?_, fun w u us v vs Q s r rs h => ?_⟩
  · unfold popLM
    repeat' split
    all_goals first | trivial | exact noX_guard trivial
  · unfold popLM at h
    split at h
    · rename_i n
      split at h
      · rename_i xs hS
        split at h
        · rename_i y hy
          cases r with
          | @loc _ a hm =>
            cases rs
            obtain ⟨ys, q, r2⟩ := s.obj n a _ hm hS
            obtain ⟨vy, e, ry⟩ := r2.get hy
            have st : Stp w (w.put n a (.lst ys.dropLast) (.lst xs.dropLast)) := Stp.put s hm hS (by intro z; cases z)
            exact .inl ⟨a, ys, vy, rfl, rfl, q, by rw [← r2.length]; exact e, h _ vy rfl st (s.put hm hS (by intro z; cases z) ⟨_, upd_same, (vrs_dropLast r2).ext st.x s⟩) (ry.ext st.x s)⟩
        · exact h.elim
      · exact h.elim
    · rename_i n i
      split at h
      · rename_i xs hS
        split at h
        · rename_i k hk
          split at h
          · rename_i y hy
            obtain ⟨hl, h⟩ := guard_post h
            rw [Bool.and_eq_true, decide_eq_true_eq, decide_eq_true_eq] at hl
            cases r with
            | @loc _ a hm =>
              cases rs with
              | cons ri rs =>
                cases rs
                cases ri
                obtain ⟨ys, q, r2⟩ := s.obj n a _ hm hS
                obtain ⟨vy, e, ry⟩ := r2.get hy
                have st : Stp w (w.put n a (.lst (ys.eraseIdx k)) (.lst (xs.eraseIdx k))) := Stp.put s hm hS (by intro z; cases z)
                exact .inr ⟨a, ys, i, k, vy, rfl, rfl, q, hl.1, hl.2, by rw [← r2.length]; exact hk, e, h _ vy rfl st (s.put hm hS (by intro z; cases z) ⟨_, upd_same, (vrs_erase k r2).ext st.x s⟩) (ry.ext st.x s)⟩
          · exact h.elim
        · exact h.elim
      · exact h.elim
    · exact h.elim
end
end DL
set_option maxHeartbeats 1000000
namespace DL
open PySem PySem.Spec L2 PyProof.Rows HT
section
variable {prog : Program} {w : World} {A : Around} {E : Value → Shared → Prop} {s : Shared}
end
section
variable {X : Cx} {Wx : WX}
end
end DL
set_option maxHeartbeats 1000000
namespace DL
open PySem PySem.Spec L2 PyProof.Rows
def kU : Key → U
  | .inl i => .int i
  | .inr x => .str x
def kD : Key → PyData
  | .inl i => .int i
  | .inr x => .str x
section
variable {X : Cx} {Wx : WX}
abbrev Ent := Key × V × PyData
def Ent.kv (e : Ent) : Key × V := (e.1, e.2.1)
def Ent.d (e : Ent) : PyData := .tuple [kD e.1, e.2.2]
mutual
theorem dp_up {K : PySem.W.Frag} {H H' : Hp} (up : ∀ b o, H b = some o → H' b = some o) : ∀ {v : V} {d : PyData}, Dp K H v d → Dp K H' v d
  | _, _, .non => .non
  | _, _, .bl b => .bl b
  | _, _, .int i => .int i
  | _, _, .str x => .str x
  | _, _, .lst h r => .lst (h.imp (fun z => z.imp (up _ _) fun ⟨o, y⟩ => ⟨o, up _ _ y⟩) id) (dps_up up r)
  | _, _, .tup h r => .tup (h.imp (fun z => z.imp (up _ _) fun ⟨o, y⟩ => ⟨o, up _ _ y⟩) id) (dps_up up r)
theorem dps_up {K : PySem.W.Frag} {H H' : Hp} (up : ∀ b o, H b = some o → H' b = some o) : ∀ {vs : List V} {ds : List PyData}, DpAll K H vs ds → DpAll K H' vs ds
  | _, _, .nil => .nil
  | _, _, .cons h r => .cons (dp_up up h) (dps_up up r)
end
end
end DL
set_option maxHeartbeats 1000000
namespace DL
open PySem PySem.Spec L2 PyProof.Rows
section
variable {X : Cx} {Wx : WX}
structure Row where
  k : Key
  u : U
  v : V
  d : PyData
def Row.e (r : Row) : Ent := (r.k, r.v, r.d)
def Row.it (r : Row) : U := .tup [kU r.k, r.u]
theorem kU_vr {K : KM} {w : Wd} (k : Key) : VR K w (kU k) (kV k) := by
  cases k with
  | inl i => exact .int i
  | inr x => exact .str x
theorem dict_ty {u : U} {S : Sto} {p : List Key × List U} (h : dictOf u S = some p) : tyU "dict" u S = true := by
  cases u with
  | dic ks us => rfl
  | loc n =>
    unfold dictOf at h
    unfold tyU
    dsimp only at h ⊢
    split at h
    · rename_i e
      rw [e]
      rfl
    · cases h
  | _ => cases h
end
end DL
set_option maxHeartbeats 1000000
namespace DL
open PySem PySem.Spec L2
section
variable {X : Cx} {Wx : WX}
end
end DL
set_option maxHeartbeats 1000000
namespace ETU
open PySem
open PySem.Sem (wp)
open PySem.AutoSeq1 (wpAny_loadPart')
theorem meets_newT (l : Addr) (items : Array Value) (n : Nat) (dct : Option Addr) (sl : Array (Option Value)) :
    Meets (Builtin.«enumerate.__new__» ⟨[.type "enumerate", .ref l], []⟩) (fun _ R s => s.heap.get? l = some { cls := .type "tuple", dict := dct, data := .seq items n, slots := sl } ∧
      R (.ok (.ret (.ref (s.heap.push { cls := .type "tuple_iterator", data := .fields #[.ref l, .int 0 0] }).objs.size)))
        { s with heap := (s.heap.push { cls := .type "tuple_iterator", data := .fields #[.ref l, .int 0 0] }).push { cls := .type "enumerate", data := .fields #[.none, .bool false, .ref s.heap.objs.size, rawInt 0, .none, .none] } }) :=
  .of_wp fun prog w A R s h => by
    obtain ⟨hp, g, d, tk, os⟩ := s; obtain ⟨hl, h⟩ := h
    have hsub := sub_enumerate
    have hL : Heap.IsTuple (Shared.heap ⟨hp, g, d, tk, os⟩) l items := ⟨_, hl, rfl, n, rfl⟩
    wp_walk using wpAny_loadPart' hl
    refine wpAny_stack_any fun st => wpAny_pure ?_
    split
    · rename_i c _ _ _ _ _
      cases (c == Value.type "enumerate")
      · wp_walk using wpAny_loadPart' hl, wpAny_pyIter_tuple hL
        exact ⟨_, rfl, h⟩
      · wp_walk using wpAny_loadPart' hl, wpAny_pyIter_tuple hL
        exact ⟨_, rfl, h⟩
    · wp_walk using wpAny_loadPart' hl, wpAny_pyIter_tuple hL
      exact ⟨_, rfl, h⟩
section
variable {prog : Program} {w : World} {A : Around} {E : Value → Shared → Prop} {s : Shared}
theorem call_enumerate_tuple {l : Addr} {items : Array Value} {Q : Value → Shared → Prop} (hL : s.heap.IsTuple l items)
    (h : ∀ h', IsEnum h' (s.heap.objs.size + 1) s.heap.objs.size 0 .none → h'.IsTupleIter s.heap.objs.size l 0 → h'.objs.size = s.heap.objs.size + 2 →
      (∀ b o, s.heap.get? b = some o → h'.get? b = some o) → Q (.ref (s.heap.objs.size + 1)) { s with heap := h' }) :
    wpAny (model prog w) A (call (.type "enumerate") [.ref l]) Q E s := by
  obtain ⟨⟨c, dct, dt, sl⟩, hl, hc, n, hd⟩ := hL
  replace hc : c = .type "tuple" := hc
  replace hd : dt = .seq items n := hd
  subst hc hd
  refine callType_new F.called_enumerate (by decide) (F.typeCall_enumerate_1 _) (F.newCall_enumerate_1 _) (fun obj => F.args_object_init_2 obj _) F.entry_enumerate_new
    (meets_newT l items n dct sl) ⟨hl, ?_⟩
  have hz : (s.heap.push { cls := .type "tuple_iterator", data := .fields #[.ref l, .int 0 0] }).objs.size = s.heap.objs.size + 1 := Heap.size_push ..
  show _ ∧ _
  rw [hz]
  have he : IsEnum ((s.heap.push { cls := .type "tuple_iterator", data := .fields #[.ref l, .int 0 0] }).push
      { cls := .type "enumerate", data := .fields #[.none, .bool false, .ref s.heap.objs.size, rawInt 0, .none, .none] }) (s.heap.objs.size + 1) s.heap.objs.size 0 .none := by
    have := Heap.get?_push_size (s.heap.push { cls := .type "tuple_iterator", data := .fields #[.ref l, .int 0 0] })
      (o := { cls := .type "enumerate", data := .fields #[.none, .bool false, .ref s.heap.objs.size, rawInt 0, .none, .none] }) rfl
    rw [hz] at this; exact this
  refine ⟨⟨_, he, rfl⟩, h _ he ⟨_, Heap.get?_push_of_some _ (Heap.get?_push_size _ rfl), rfl, rfl⟩ (by rw [Heap.size_push, hz]) fun b o x => Heap.get?_push_of_some _ (Heap.get?_push_of_some _ x)⟩
end
theorem drawsT {prog : Program} {w : World} {A : Around} (hh : A.handled = none) (it l : Addr) (hne : l ≠ it) (items : Array Value) :
    Draws prog w A it [it, l] items.size (fun i v => items[i]? = some v) (fun i h => h.IsTupleIter it l i ∧ h.IsTuple l items) where
  live := fun _ _ st => let ⟨o, ho, _⟩ := st.1; ⟨o, ho⟩
  frame := fun _ _ _ st hk => ⟨st.1.at fun o e => hk it (by simp) o e, st.2.at fun o e => hk l (by simp) o e⟩
  item := fun i s Q E hi st hQ => by
    refine RZ.nextOf_tuple_item st.1 st.2 (x := items[i]) (by simp [hi]) fun h' hit' hs' => ?_
    exact hQ _ h' s.toks (by simp [hi]) ⟨hit', st.2.at fun o e => hs'.extBut l o hne e⟩ hs'
  done := fun s Q E st hE => RZ.nextOf_tuple_end hh st.1 st.2 (by simp) hE
end ETU
namespace DL
open PySem PySem.Spec L2 PyProof.Rows
def IteT (K : PySem.W.Frag) (a : Addr) : It :=
  ⟨fun i H => ∃ (xs : List V) (x : V), SqT K H a xs ∧ xs[i]? = some x, fun i H v H' => ∃ T x, v = .ref T ∧ H T = none ∧ H' = upd H T (.tup [.int (i : Nat), x]) ∧ ∀ xs, SqT K H a xs → xs[i]? = some x, fun i H => ∃ xs : List V, SqT K H a xs ∧ xs.length ≤ i⟩
theorem turn_enumT {P : Program} {w : World} {K : PySem.W.Frag} {elts : List Expr} {kk : Nat} {tpos : Pos} (a e it : Addr) :
    Turn P w K (.Tuple elts kk tpos) (IteT K a) [e, it] e (fun i h => (∃ old, IsEnum h e it ((i : Nat) : Int) old) ∧ h.IsTupleIter it a i ∧ e ≠ it ∧ a ≠ it ∧ a ≠ e) where
  mem := by simp
  obj := fun i h st b hb => by
    obtain ⟨⟨old, he⟩, ⟨o, ho, hc, hd⟩, _⟩ := st
    have e' : b = e ∨ b = it := by simpa using hb
    rcases e' with z | z
    · rw [z]; exact ⟨_, he, fun v q => nomatch q⟩
    · rw [z]; exact ⟨o, ho, fun v q => by rw [hd] at q; cases q⟩
  keep := fun i h h' st k => let ⟨⟨old, he⟩, hi, hne⟩ := st; ⟨⟨old, k e (by simp) _ he⟩, hi.at fun o q => k it (by simp) o q, hne⟩
  item := by
    intro X hP hw hK hc i pins s σ H E I hf st hg
    subst hP hw hK
    obtain ⟨⟨old, he⟩, hit, hne, ha1, ha2⟩ := st
    obtain ⟨xs, x, hq, hx⟩ := hg
    obtain ⟨its, rv, p, hz⟩ := I.tuple hq
    obtain ⟨u, hu, ru⟩ := rv.get hx
    have hel : e < s.heap.objs.size := Heap.lt_size he
    have hil : it < s.heap.objs.size := by obtain ⟨_, q, _⟩ := hit; exact Heap.lt_size q
    have hlt : i < its.toArray.size := by
      have := (List.getElem?_eq_some_iff.mp hu).1
      simpa using this
    refine wpAny_pyNext_enum_itemD (ETU.drawsT (A := X.A.in1) (I.ok.hd hc) it a ha1 its.toArray) he ⟨hit, p⟩ hlt hne (by simp; exact ⟨hne, fun z => ha2 z.symm⟩) fun y h' tk hy ho hst hT hsz hk => ?_
    have ey : y = u := by
      have : its[i]? = some y := by simpa using hy
      rw [hu] at this
      exact (Option.some.inj this).symm
    subst ey
    refine ⟨_, rfl, wpAny_letOwnedTupleGo_enum (s := { s with heap := h', toks := tk + 1 }) ho fun h'' he' sb => ?_⟩
    have hT2 : h''.get? s.heap.objs.size = some { cls := .type "tuple", data := .seq #[.int i tk, y] } := (sb.2 _ (Nat.ne_of_gt hel)).trans hT
    have new : ObjOk X.prog X.w (upd H s.heap.objs.size (.tup [.int (i : Nat), x])) h'' s.heap.objs.size (.tup [.int (i : Nat), x]) :=
      ⟨by show 2 ≤ sizeLine; decide, [.int i tk, y], .cons ⟨_, rfl⟩ (.cons ru .nil), ⟨_, hT2, rfl, _, rfl⟩⟩
    have I1 : Inv X pins σ (upd H s.heap.objs.size (.tup [.int (i : Nat), x])) { s with heap := h'', toks := tk + 1 } :=
      I.turnedNew (ch := [e, it]) (fun b ob hb q => (sb.2 b (fun z => hb (by simp [z]))).trans (hk b ob (fun z => hb (by simp [z])) (fun z => hb (by simp [z])) q)) hf (Nat.le_refl _) new
    refine ⟨.ref s.heap.objs.size, _, I1, rfl, ⟨_, x, rfl, I.hok.fresh (Nat.le_refl _), rfl, fun ys hy => by rw [I.tuple_inj hy hq]; exact hx⟩, ⟨⟨y, ?_⟩, hst.1.at fun o q => (sb.2 it (Ne.symm hne)).trans q, hne, ha1, ha2⟩, fun b hb => ?_⟩
    · have e1 : ((i + 1 : Nat) : Int) = (i : Int) + 1 := by omega
      rw [e1]; exact he'
    · have hb' : b < s.heap.objs.size := by
        have e' : b = e ∨ b = it := by simpa using hb
        rcases e' with z | z
        · rw [z]; exact hel
        · rw [z]; exact hil
      rw [upd_ne (Nat.ne_of_lt hb')]
      exact (hf b hb).1
  done := by
    intro X hP hw hK hc i pins s σ H E I hf st hg
    subst hP hw hK
    obtain ⟨⟨old, he⟩, hit, hne, ha1, ha2⟩ := st
    obtain ⟨xs, hq, hx⟩ := hg
    obtain ⟨its, rv, p, hz⟩ := I.tuple hq
    obtain ⟨f0, f1, f2, f3, f4, f5⟩ := hf it (by simp)
    have hl := rv.length
    have hT : s.TypeIs (.ref e) "enumerate" := ⟨_, he, rfl⟩
    unfold pyNext
    refine wpAny_bind (wpAny_attempt (wpAny_callSpecial?_slot (name := Str.ofString "__next__") hT F.slot_enumerate_next
      (wpAny_call_entry F.slot_enumerate_next hT F.entry_enumerate_next ?_ (F.args_enumerate_next_1 _))))
    show wpAny _ _ (field (.ref e) 2 >>= _) _ _ _
    refine wpAny_bind (wpAny_field he rfl (x := .ref it) rfl ?_)
    refine wpAny_bind (RZ.nextOf_tuple_end (I.ok.hd hc) hit p (by simp; omega) fun h' x he' hx' => ?_)
    obtain ⟨o, ho, hc⟩ := hx'
    refine wpAny_bind (wpAny_isInstance (T := "StopIteration") (b := true) ⟨o, ho, hc⟩ isSubtype_stop ?_)
    exact wpAny_pure ⟨rfl, I.turned (t' := s.toks) (fun b o hb q => he' b o hb q) f0 f1 f3 f4 f5⟩
  self := fun A i s Q E st h => let ⟨⟨_, he⟩, _⟩ := st; wpAny_pyIter_enum he h
def iEnumA (K : PySem.W.Frag) (ta : TA) : TI := fun σ H R => ta σ H fun vs H1 => ∃ a xs, vs = [.ref a] ∧ ((SqL K H1 a xs ∧ R (Ite K a) H1) ∨ (SqT K H1 a xs ∧ R (IteT K a) H1))
theorem pi_enumA {X : Cx} {e : Expr} {ta : TA} {p pos tpos : Pos} {elts : List Expr} {kk : Nat} (hg : Gl X "enumerate") (hm : X.mg "enumerate" = none) (ha : PA X [e] ta) (hs : starEach [e] X.env = [(false, eval e X.env)] := by rfl) :
    PI X (.Tuple elts kk tpos) (.Call (.Name "enumerate" p) [e] [] pos) (iEnumA X.K ta) := by
  refine ⟨fun pins s σ H R I h => ?_⟩
  refine Call_ (ld_blt I hg hm boot_enumerate (PyProof.Rows.callWith_type1 (thn (ha.run pos pins s σ H _ I h) fun us s1 ⟨vs, H1, I1, r1, q1⟩ => ?_) hs rfl))
  obtain ⟨a, xs, ex, hq⟩ := q1
  subst ex
  cases r1 with
  | cons r rr =>
    cases rr
    cases r
    rcases hq with ⟨hq, q⟩ | ⟨hq, q⟩
    · obtain ⟨its, rv, p', hz⟩ := I1.list hq
      refine call_enumerate_list p'.isList fun h' he hit hsz hk => wpAny_pyIter_enum he ?_
      have I2 : Inv X pins σ H1 { s1 with heap := h' } := I1.kept (t' := s1.toks) hk
      refine ⟨s1.heap.objs.size + 1, [s1.heap.objs.size + 1, s1.heap.objs.size], _, _, H1, rfl, I2, turn_enum a (s1.heap.objs.size + 1) s1.heap.objs.size, ⟨⟨.none, he⟩, hit, Nat.succ_ne_self _⟩, fun b hb => ?_, q⟩
      have e' : b = s1.heap.objs.size + 1 ∨ b = s1.heap.objs.size := by simpa using hb
      have hle : s1.heap.objs.size ≤ b := by
        rcases e' with z | z
        · rw [z]; exact Nat.le_add_right _ _
        · rw [z]; exact Nat.le_refl _
      exact I1.fpOk hle (I1.hok.fresh hle)
    · obtain ⟨its, rv, p', hz⟩ := I1.tuple hq
      have hal : a < s1.heap.objs.size := by obtain ⟨_, q, _⟩ := p'; exact Heap.lt_size q
      refine ETU.call_enumerate_tuple p' fun h' he hit hsz hk => wpAny_pyIter_enum he ?_
      have I2 : Inv X pins σ H1 { s1 with heap := h' } := I1.kept (t' := s1.toks) hk
      refine ⟨s1.heap.objs.size + 1, [s1.heap.objs.size + 1, s1.heap.objs.size], _, _, H1, rfl, I2, turn_enumT a (s1.heap.objs.size + 1) s1.heap.objs.size, ⟨⟨.none, he⟩, hit, Nat.succ_ne_self _, Nat.ne_of_lt hal, Nat.ne_of_lt (Nat.lt_succ_of_lt hal)⟩, fun b hb => ?_, q⟩
      have e' : b = s1.heap.objs.size + 1 ∨ b = s1.heap.objs.size := by simpa using hb
      have hle : s1.heap.objs.size ≤ b := by
        rcases e' with z | z
        · rw [z]; exact Nat.le_add_right _ _
        · rw [z]; exact Nat.le_refl _
      exact I1.fpOk hle (I1.hok.fresh hle)
section
variable {X : Cx} {Wx : WX}
def aEnumA (fa : FA) : FA := fun d S => (fa d S).bind fun us S1 => match us with
  | [u] => match lstV u with
    | some us => .ok (enumU 0 us) S1
    | none => match tupV u with
      | some us => .ok (enumU 0 us) S1
      | none => .bad
  | _ => .bad
theorem it_enumT {K : KM} {w : Wd} {a : Addr} {us : List U} (hk : ∀ w', Ext w w' → ∃ xs, SqT K w'.H a xs ∧ VRs K w' us xs) : ItSim K w (IteT K a) (enumU 0 us) := fun w' i x s => by
  obtain ⟨xs, hq, rs⟩ := hk w' x
  refine ⟨fun u hu => ?_, fun h => ⟨xs, hq, by rw [← rs.length]; rw [enumU_len] at h; exact h⟩⟩
  obtain ⟨y, hy, rfl⟩ := enumU_get hu
  obtain ⟨z, hz, rz⟩ := rs.get hy
  refine ⟨⟨xs, z, hq, hz⟩, fun v H' q => ?_⟩
  obtain ⟨T, z', rfl, hT, rfl, hz'⟩ := q
  have e := hz' xs hq
  rw [hz] at e
  cases e
  have st := Stp.new s (o := .tup [.int (i : Nat), z]) hT
  refine ⟨w'.new T _, rfl, rfl, st, s.new hT, ?_⟩
  rw [Nat.zero_add]
  exact .tup (TqT.of upd_same) (.cons (.int _) (.cons (rz.ext st.x s) .nil))
theorem tupV_sq {K : KM} {w : Wd} {u : U} {v : V} {us : List U} (r : VR K w u v) (h : tupV u = some us) : ∃ a, v = .ref a ∧ ∀ w', Ext w w' → SR K w → ∃ xs, SqT K w'.H a xs ∧ VRs K w' us xs := by
  cases r with
  | @tup a xs _ hq rs => cases h; exact ⟨a, rfl, fun w' x s => ⟨xs, (x.sqT s hq).sq, rs.ext x s⟩⟩
  | _ => cases h
theorem si_enumA {a : Expr} {fa : FA} {p pos tpos : Pos} {elts : List Expr} {kk : Nat} (hg : Gl X "enumerate") (hm : X.mg "enumerate" = none) (ha : SimA X Wx [a] fa) (hs : starEach [a] X.env = [(false, eval a X.env)] := by rfl) : SimI X Wx (.Tuple elts kk tpos) (.Call (.Name "enumerate" p) [a] [] pos) (aEnumA fa) := by
  obtain ⟨t, p, ha⟩ := ha.out
  refine ⟨_, pi_enumA hg hm p hs, fun w d σ Q s e h0 => ?_⟩
  refine ha w d σ _ s e ((Pst.of_bind h0).mono (fun us S1 h1 w1 vs eS st s1 rs => ?_) fun _ _ q => q)
  split at h1
  · split at h1
    · rename_i us hu
      cases rs with
      | cons r rs =>
        cases rs
        obtain ⟨a, rfl, hk⟩ := lstV_ok r hu
        obtain ⟨xs, hq, _⟩ := hk w1 (Ext.refl w1) s1
        exact ⟨a, xs, rfl, .inl ⟨hq, h1 w1 _ eS st s1 (it_enum fun w' x => hk w' x s1)⟩⟩
    · split at h1
      · rename_i us hu
        cases rs with
        | cons r rs =>
          cases rs
          obtain ⟨a, rfl, hk⟩ := tupV_sq r hu
          obtain ⟨xs, hq, _⟩ := hk w1 (Ext.refl w1) s1
          exact ⟨a, xs, rfl, .inr ⟨hq, h1 w1 _ eS st s1 (it_enumT fun w' x => hk w' x s1)⟩⟩
      · exact h1.elim
  · exact h1.elim
end
end DL
set_option maxHeartbeats 2000000
namespace DL
open PySem PySem.Spec PyProof.Rows L2
section
variable {P : Program} {w : World} {A : Around} {E : Value → Shared → Prop} {s : Shared}
end
end DL
set_option maxHeartbeats 1000000
namespace DL
open PySem PySem.Spec PyProof.Rows L2
section
variable {X : Cx} {Wx : WX}
end
end DL
set_option maxHeartbeats 1000000
namespace DL
open PySem PySem.Spec PyProof.Rows L2
section
variable {X : Cx} {Wx : WX}
theorem VRs.rep {K : KM} {w : Wd} {us : List U} {xs : List V} (h : VRs K w us xs) : ∀ k : Nat, VRs K w (List.replicate k us).flatten (List.replicate k xs).flatten
  | 0 => .nil
  | k + 1 => by
    rw [List.replicate_succ, List.replicate_succ, List.flatten_cons, List.flatten_cons]
    exact h.append (VRs.rep h k)
end
end DL
set_option maxHeartbeats 1000000
namespace DL
open PySem PySem.Spec PyProof.Rows L2
section
variable {X : Cx} {Wx : WX}
end
end DL
set_option maxHeartbeats 1000000
namespace DL
open PySem PySem.Spec PyProof.Rows L2
section
variable {X : Cx} {Wx : WX}
end
end DL
set_option maxHeartbeats 1000000
namespace DL
open PySem PySem.Spec PyProof.Rows L2
mutual
theorem keyN_D : ∀ {u : U} {k : NestedKey}, keyN u = some k → ∃ d, toD u = some d ∧ keyD d = some k
  | .non, _, h => ⟨.none, rfl, by unfold keyN at h; unfold keyD; exact h⟩
  | .bl b, _, h => ⟨.bool b, rfl, by unfold keyN at h; unfold keyD; exact h⟩
  | .int i, _, h => ⟨.int i, rfl, by unfold keyN at h; unfold keyD; exact h⟩
  | .str x, _, h => ⟨.str x, rfl, by unfold keyN at h; unfold keyD; exact h⟩
  | .tup us, k, h => by
    unfold keyN at h
    cases q : keyNs us with
    | none => rw [q] at h; cases h
    | some ks =>
      rw [q] at h
      cases h
      obtain ⟨ds, e1, e2⟩ := keyNs_D q
      exact ⟨.tuple ds, by unfold toD; rw [e1]; rfl, by unfold keyD; rw [e2]; rfl⟩
  | .lst _, _, h => by unfold keyN at h; cases h
  | .frz _, _, h => by unfold keyN at h; cases h
  | .dic _ _, _, h => by unfold keyN at h; cases h
  | .loc _, _, h => by unfold keyN at h; cases h
  | .ty _, _, h => by unfold keyN at h; cases h
  | .exc _ _ _, _, h => by unfold keyN at h; cases h
  | .cl _, _, h => by unfold keyN at h; cases h
theorem keyNs_D : ∀ {us : List U} {ks : List NestedKey}, keyNs us = some ks → ∃ ds, toDs us = some ds ∧ keyDs ds = some ks
  | [], _, h => ⟨[], rfl, by unfold keyNs at h; unfold keyDs; exact h⟩
  | u :: us, _, h => by
    unfold keyNs at h
    split at h
    · rename_i k ks e1 e2
      cases h
      obtain ⟨d, h1, h2⟩ := keyN_D e1
      obtain ⟨ds, h3, h4⟩ := keyNs_D e2
      exact ⟨d :: ds, by unfold toDs; rw [h1, h3], by unfold keyDs; rw [h2, h4]⟩
    · cases h
end
theorem keyT_N {u : U} {k : NestedKey} (h : keyT u = some k) : keyN u = some k ∧ k.depth ≤ 8 ∧ ∃ us, u = .tup us := by
  unfold keyT at h
  split at h
  · rename_i ks e
    split at h
    · rename_i hd
      cases h
      refine ⟨e, hd, ?_⟩
      cases u with
      | tup us => exact ⟨us, rfl⟩
      | _ => unfold keyN at e; cases e
    · cases h
  · cases h
def KAt (X : Cx) (H : Hp) (a : Addr) (k : NestedKey) : Prop := ∃ d, Dp X.K H (V.ref a) d ∧ keyD d = some k ∧ k.depth ≤ 8
section
variable {X : Cx} {Wx : WX}
theorem KAt.ni {pins : List (Addr × Obj)} {σ : L2.St} {H : Hp} {s : Shared} {a : Addr} {k : NestedKey} (I : Inv X pins σ H s) (h : KAt X H a k) : NI s.heap k a := by
  obtain ⟨d, hd, hk, h8⟩ := h
  obtain ⟨as, r⟩ := Dp.reads I d (V.ref a) (.ref a) hd rfl
  exact ⟨reads_key d r hk, h8⟩
theorem kat_of {w : Wd} {u : U} {v : V} {k : NestedKey} (r : VR (KMof X) w u v) (h : keyT u = some k) : ∃ a, v = .ref a ∧ KAt X w.H a k := by
  obtain ⟨hn, h8, us, rfl⟩ := keyT_N h
  obtain ⟨d, h1, h2⟩ := keyN_D hn
  have hd := toD_ok r h1
  cases r with
  | @tup a xs us hq rs => exact ⟨a, rfl, d, hd, h2, h8⟩
def KDict (X : Cx) (H : Hp) (a : Addr) (L : List (NestedKey × Addr × V)) : Prop := H a = some (KdO X.prog X.w a L) ∧ ∀ x ∈ L, KAt X H x.2.1 x.1
def valL (L : List (NestedKey × Addr × V)) (k : NestedKey) : Option V := (L.find? fun x => decide (x.1 = k)).map (·.2.2)
inductive LRel : List (NestedKey × Addr × V) → List (NestedKey × Addr × Value) → Prop
  | nil : LRel [] []
  | cons {k : NestedKey} {a : Addr} {v : V} {u : Value} {L xs} : RelV v u → LRel L xs → LRel ((k, a, v) :: L) ((k, a, u) :: xs)
theorem lrel_of : ∀ {L : List (NestedKey × Addr × V)} {xs : List (NestedKey × Addr × Value)}, L.map (fun x => (x.1, x.2.1)) = xs.map (fun x => (x.1, x.2.1)) → Vals (L.map (·.2.2)) (xs.map (·.2.2)) → LRel L xs
  | [], [], _, _ => .nil
  | [], _ :: _, h, _ => by cases h
  | _ :: _, [], h, _ => by cases h
  | (k, a, v) :: L, (k', a', u) :: xs, h, r => by
    rw [List.map_cons, List.map_cons] at h r
    obtain ⟨h1, h2⟩ := List.cons.inj h
    have e1 : k = k' := congrArg Prod.fst h1
    have e2 : a = a' := congrArg Prod.snd h1
    subst e1 e2
    cases r with
    | cons r1 r2 => exact .cons r1 (lrel_of h2 r2)
theorem LRel.back {L : List (NestedKey × Addr × V)} {xs : List (NestedKey × Addr × Value)} (h : LRel L xs) : L.map (fun x => (x.1, x.2.1)) = xs.map (fun x => (x.1, x.2.1)) ∧ Vals (L.map (·.2.2)) (xs.map (·.2.2)) := by
  induction h with
  | nil => exact ⟨rfl, .nil⟩
  | cons r _ ih => exact ⟨by rw [List.map_cons, List.map_cons, ih.1], .cons r ih.2⟩
theorem LRel.length {L : List (NestedKey × Addr × V)} {xs : List (NestedKey × Addr × Value)} (h : LRel L xs) : L.length = xs.length := by
  induction h with
  | nil => rfl
  | cons _ _ ih => rw [List.length_cons, List.length_cons, ih]
theorem LRel.at {L : List (NestedKey × Addr × V)} {xs : List (NestedKey × Addr × Value)} (h : LRel L xs) (k : NestedKey) : (valL L k = none ∧ atKey xs k = none) ∨ ∃ v p, valL L k = some v ∧ atKey xs k = some p ∧ RelV v p.2 := by
  induction h with
  | nil => exact .inl ⟨rfl, rfl⟩
  | @cons k' a v u L xs r _ ih =>
    by_cases e : k' = k
    · exact .inr ⟨v, (a, u), by simp [valL, e], by simp [atKey, e], r⟩
    · rcases ih with ⟨h1, h2⟩ | ⟨v', p, h1, h2, h3⟩
      · exact .inl ⟨by simpa [valL, e] using h1, by simpa [atKey, e] using h2⟩
      · exact .inr ⟨v', p, by simpa [valL, e] using h1, by simpa [atKey, e] using h2, h3⟩
def putL (L : List (NestedKey × Addr × V)) (k : NestedKey) (a : Addr) (v : V) : List (NestedKey × Addr × V) :=
  if (valL L k).isSome then L.map (fun x => if x.1 = k then (x.1, x.2.1, v) else x) else L ++ [(k, a, v)]
theorem LRel.map_put {L : List (NestedKey × Addr × V)} {xs : List (NestedKey × Addr × Value)} {k : NestedKey} {v : V} {u : Value} (r : RelV v u) (h : LRel L xs) : LRel (L.map (fun x => if x.1 = k then (x.1, x.2.1, v) else x)) (xs.map (putAt k u)) := by
  induction h with
  | nil => exact .nil
  | @cons k' a v' u' L xs r' _ ih =>
    rw [List.map_cons, List.map_cons]
    unfold putAt
    by_cases e : k' = k
    · simp only [e, if_true]
      exact .cons r ih
    · simp only [e, if_false]
      exact .cons r' ih
theorem LRel.snoc {L : List (NestedKey × Addr × V)} {xs : List (NestedKey × Addr × Value)} {k : NestedKey} {a : Addr} {v : V} {u : Value} (r : RelV v u) (h : LRel L xs) : LRel (L ++ [(k, a, v)]) (xs ++ [(k, a, u)]) := by
  induction h with
  | nil => exact .cons r .nil
  | cons r' _ ih => exact .cons r' ih
theorem LRel.put {L : List (NestedKey × Addr × V)} {xs : List (NestedKey × Addr × Value)} {k : NestedKey} {a : Addr} {v : V} {u : Value} (r : RelV v u) (h : LRel L xs) : LRel (putL L k a v) (storedH xs k a u) := by
  unfold putL storedH
  rcases h.at k with ⟨h1, h2⟩ | ⟨v', p, h1, h2, _⟩
  · rw [h1, h2]; exact h.snoc r
  · rw [h1, h2]; exact h.map_put r
def dropL (L : List (NestedKey × Addr × V)) (k : NestedKey) : List (NestedKey × Addr × V) := L.filter fun x => decide (x.1 ≠ k)
theorem LRel.drop {L : List (NestedKey × Addr × V)} {xs : List (NestedKey × Addr × Value)} (k : NestedKey) (h : LRel L xs) : LRel (dropL L k) (withoutH xs k) := by
  unfold dropL withoutH
  induction h with
  | nil => exact .nil
  | @cons k' a v' u' L xs r' _ ih =>
    by_cases e : k' = k
    · simpa [List.filter_cons, e] using ih
    · simp only [List.filter_cons, e, ne_eq, not_false_eq_true, decide_true, if_true]
      exact .cons r' ih
theorem KDict.get {pins : List (Addr × Obj)} {σ : L2.St} {H : Hp} {s : Shared} {a : Addr} {L : List (NestedKey × Addr × V)} (I : Inv X pins σ H s) (h : KDict X H a L) :
    (a == sysModules) = false ∧ L.length ≤ sizeLine ∧ ∃ xs, s.heap.DictOfH (nestedKind X.prog X.w) a xs ∧ LRel L xs := by
  obtain ⟨⟨h1, h2, o, es, ep, xs, e1, e2, e3, e4, e5, e6, e7⟩, _⟩ := I.hok a _ h.1
  have r := lrel_of e6 e7
  refine ⟨h1, h2, xs, ⟨o, es, ep, e1, e2, e3, e4, fun x hx => ?_, e5⟩, r⟩
  have hm : (x.1, x.2.1) ∈ L.map (fun x => (x.1, x.2.1)) := by rw [e6]; exact List.mem_map.mpr ⟨x, hx, rfl⟩
  obtain ⟨y, hy, ey⟩ := List.mem_map.mp hm
  have k := KAt.ni I (h.2 y hy)
  have z1 : y.1 = x.1 := congrArg Prod.fst ey
  have z2 : y.2.1 = x.2.1 := congrArg Prod.snd ey
  rw [z1, z2] at k
  exact k
end
end DL
set_option maxHeartbeats 1000000
namespace DL
open PySem PySem.Spec PyProof.Rows L2
section
variable {X : Cx} {Wx : WX}
section
variable {name : Str} {id : String} {r : V → List V → Hp → VK → Prop} {o e : Expr} {es : List Expr} {to : TE} {t : TA} {apos cpos : Pos}
end
end
end DL
set_option maxHeartbeats 1000000
namespace DL
open PySem PySem.Spec PyProof.Rows L2
section
variable {X : Cx} {Wx : WX}
end
end DL
set_option maxHeartbeats 4000000
namespace DL
open PySem PySem.Spec PyProof.Rows L2
section
variable {X : Cx} {Wx : WX}
end
end DL
namespace DL
open PySem PySem.Spec PyProof.Rows L2
section
variable {X : Cx} {Wx : WX}
end
end DL
set_option maxHeartbeats 1000000
namespace DL
open PySem PySem.Spec PyProof.Rows L2
def Wd.growO (w : Wd) (D : Addr) (o : HO) : Wd := ⟨w.m, w.S, upd w.H D o, w.r⟩
section
variable {K : KM} {w : Wd}
theorem Ext.growO {D : Addr} {o : HO} (hD : D ∈ w.r) : Ext w (w.growO D o) :=
  ⟨⟨[], (List.append_nil _).symm⟩, fun a u h nl => by
    show upd w.H D _ a = some u
    rw [upd_ne fun e => nl (by subst e; exact .inl hD)]; exact h, fun _ h => .inl h⟩
theorem SR.growO (s : SR K w) {D : Addr} {o : HO} (hD : D ∈ w.r) (mo : MutO o) : SR K (w.growO D o) := by
  have x := Ext.growO (o := o) hD
  refine ⟨s.len, s.inj, fun n a b h1 h2 => ?_, fun a h => ?_, s.rd⟩
  · by_cases hb : b = .dead
    · subst hb; trivial
    · refine (s.obj n a b h1 h2).ext x s ?_
      show upd w.H D _ a = w.H a
      rw [upd_ne fun e => s.rd D hD (by subst e; exact ⟨n, b, h1, h2, hb⟩)]
  · by_cases e : a = D
    · subst e; exact ⟨_, upd_same, .inl mo⟩
    · obtain ⟨ys, q, mo'⟩ := s.rk a h
      exact ⟨ys, by show upd w.H D _ a = _; rw [upd_ne e]; exact q, mo'⟩
end
def compD (g : U → En → Option En) (ft : FT) (fk fv : FE) (d : En) : List U → List Key × List U → Sto → R (List Key × List U)
  | [], acc, S => .ok acc S
  | u :: us, acc, S => match g u d with
    | none => .bad
    | some d1 => match ft d1 S with
      | .ok true S1 => match fk d1 S1 with
        | .ok x S2 => match fv d1 S2 with
          | .ok y S3 => match keyU x with
            | some k => guard (decide (acc.1.length < sizeLine)) (compD g ft fk fv d us (putU acc.1 acc.2 k y) S3)
            | none => .bad
          | _ => .bad
        | _ => .bad
      | .ok false S1 => compD g ft fk fv d us acc S1
      | _ => .bad
def dComp (fi : FA) (g : U → En → Option En) (ft : FT) (fk fv : FE) (vs : List Nat) : FD := fun d S => (fi d S).bind fun us S1 => compD g ft fk fv (wipeE d vs) us ([], []) S1
section
variable {X : Cx} {Wx : WX}
section
variable {tg iter kx vx : Expr} {pos : Pos} {ifs : List Expr} {scope : Scope} {own : List (Str × Nat)} {fi : FA} {is vs : List Nat} {g : U → En → Option En} {ft : FT} {fk fv : FE}
end
def insM (u : U) (us : List U) (S : Sto) : R U := match u, us with
  | .loc n, [.int i, y] => match S[n]? with
    | some (.lst xs) => guard (decide (xs.length < sizeLine) && decide (0 ≤ i) && decide (i < 2 ^ 63)) (.ok .non (S.set n (.lst (xs.take i.toNat ++ [y] ++ xs.drop i.toNat))))
    | _ => .bad
  | _, _ => .bad
theorem ms_insert : MtSim X "list.insert" insM := by
  refine ⟨_, mt_insert, fun u us S => by unfold insM; split <;> first | trivial | (split <;> first | trivial | exact noX_guard trivial), fun w u us v vs Q s r rs h => ?_⟩
  unfold insM at h
  split at h
  · rename_i n i y
    split at h
    · rename_i xs hS
      obtain ⟨hl, h⟩ := guard_post h
      rw [Bool.and_eq_true, Bool.and_eq_true, decide_eq_true_eq, decide_eq_true_eq, decide_eq_true_eq] at hl
      cases r with
      | @loc _ a hm =>
        cases rs with
        | cons ri rs =>
          cases ri
          cases rs with
          | @cons _ _ vy _ ry rs =>
            cases rs
            obtain ⟨vs, q, r1⟩ := s.obj n a _ hm hS
            have st1 : Stp w (w.put n a (.lst (vs.take i.toNat ++ [vy] ++ vs.drop i.toNat)) (.lst (xs.take i.toNat ++ [y] ++ xs.drop i.toNat))) := Stp.put s hm hS (by intro z; cases z)
            refine ⟨a, vs, i, vy, rfl, rfl, q, by rw [← r1.length]; exact hl.1.1, hl.1.2, hl.2, ?_⟩
            exact h (w.put n a _ _) .non rfl st1 (s.put hm hS (by intro z; cases z) ⟨_, upd_same, (((r1.take i.toNat).snoc ry).append (r1.drop i.toNat)).ext st1.x s⟩) .non
    · exact h.elim
  · exact h.elim
end
end DL
set_option maxHeartbeats 1000000
namespace DL
open PySem PySem.Spec PyProof.Rows L2
section
variable {X : Cx} {Wx : WX} {tg iter : Expr} {body : List Stmt} {pos : Pos}
end
end DL
set_option maxHeartbeats 1000000
namespace DL
open PySem PySem.Spec PyProof.Rows L2 RZ
abbrev FG := En → Sto → R (List U × (Sto → Prop))
open Classical in
section
variable {X : Cx} {Wx : WX}
section
variable {tg iter elt : Expr} {pos : Pos} {ifs : List Expr} {scope : Scope} {own : List (Str × Nat)} {fi : FG} {is vs : List Nat} {g : U → En → Option En} {ft : FT} {fe : FE}
end
end
end DL
set_option maxHeartbeats 1000000
namespace DL
open PySem PySem.Spec PyProof.Rows L2
section
variable {X : Cx} {Wx : WX} {pos : Pos}
def fPar3 (i j l : Nat) (fa : FA) : FS := fun d S => toS d (fa d S) fun us S1 => match us with
  | [u, v, x] => .ok (.nx (((d.set i (some u)).set j (some v)).set l (some x))) S1
  | _ => .bad
theorem ss_par3 (i j l : Nat) {x y z : Str} {a b c : Expr} {fa : FA} {px py pz pt : Pos} {kt k2 pt2} (hc : X.calm = true) (hN : X.N.Nodup) (hi : X.N[i]? = some x) (hj : X.N[j]? = some y) (hl : X.N[l]? = some z) (hij : i ≠ j) (hil : i ≠ l) (hjl : j ≠ l)
    (hx : X.env.scope.names.lookup x = some .local) (hy : X.env.scope.names.lookup y = some .local) (hz : X.env.scope.names.lookup z = some .local) (ha : SimA X Wx [a, b, c] fa)
    (three : swappedStores [Expr.Tuple [.Name x px, .Name y py, .Name z pz] kt pt] (Expr.Tuple [a, b, c] k2 pt2) X.env = pure (some [x, y, z]))
    (sole : swapsWithSole [Expr.Tuple [.Name x px, .Name y py, .Name z pz] kt pt] (Expr.Tuple [a, b, c] k2 pt2) pos.line X.env = pure false := by rfl) :
    SimS X Wx (.Assign [.Tuple [.Name x px, .Name y py, .Name z pz] kt pt] (.Tuple [a, b, c] k2 pt2) pos) (fPar3 i j l fa) := by
  obtain ⟨t, p, ha⟩ := ha.out
  refine SimS.mk (ps_par3 hc hN hi hj hl hij hil hjl hx hy hz p three sole) (fun w d σ D s e h => ?_)
  refine ha w d σ _ s e ((toS_post s e h).mono (fun us S1 k1 w1 vs eS st s1 rs => ?_) fun _ _ q => q)
  split at k1
  · cases rs with
    | cons r1 rs =>
      cases rs with
      | cons r2 rs =>
        cases rs with
        | cons r3 rs =>
          cases rs
          exact ⟨_, _, _, rfl, k1 w1 eS st s1 _ ((((e.ext st.x s).set i r1).set j r2).set l r3)⟩
  · exact k1.elim
end
end DL
set_option maxHeartbeats 1000000
namespace DL
open PySem PySem.Spec PyProof.Rows L2
section
variable {X : Cx} {Wx : WX} {pos : Pos}
end
end DL
set_option maxHeartbeats 1000000
namespace DL
open PySem PySem.Spec L2 PyProof.Rows
section
variable {X : Cx} {Wx : WX} {tg : Expr}
end
end DL
set_option maxHeartbeats 1000000
namespace SRT
open PySem PySem.Calls PySem.W PySem.SeqAt PyProof.Rows
section
variable {prog : Program} {w : World} {A : Around} {E : Value → Shared → Prop} {s : Shared}
end
end SRT
namespace DL
open PySem PySem.Spec L2
section
variable {X : Cx} {Wx : WX}
end
end DL
set_option maxHeartbeats 1000000
namespace DL
open PySem PySem.Spec L2 PyProof.Rows
section
variable {X : Cx} {Wx : WX}
end
end DL
set_option maxHeartbeats 1000000
namespace DL
open PySem PySem.Spec L2 PyProof.Rows
section
variable {X : Cx} {Wx : WX}
structure SimK (X : Cx) (Wx : WX) (kws : List Keyword) (fk : FA) : Prop where
  out : ∃ t, PK X kws t ∧ ∀ (w : Wd) (d : En) (σ : L2.St) (Q : List V → Hp → Prop), SR (KMof X) w → ER (KMof X) w d σ → Pst (fk d w.S) (OkA X w Q) (XPost X Wx σ w) → t σ w.H Q
variable {CX : CXT} {k n : Nat} {f C : Addr} {fd : FuncData} {ps ks : List Str} {sp : Sp} {E : L2.St → XK} {x : Str} {p pos : Pos} {e : Expr} {es : List Expr} {kws : List Keyword} {t tk : TA} {kkV : List V → List V}
end
end DL
set_option maxHeartbeats 1000000
namespace NEQ
open PySem PySem.W
open Sem (wp)
section
variable {prog : Program} {w : World} {A : Around} {E : Value → Shared → Prop} {s : Shared} {K : Frag} {x C f : Addr} {ox : Obj} {od : Option Obj} {b : Value}
end
end NEQ
namespace DL
open PySem PySem.Spec L2
section
variable {X : Cx} {Wx : WX}
end
end DL
set_option maxHeartbeats 4000000
namespace DL
open PySem PySem.Spec L2 PyProof.Rows
section
variable {X : Cx} {x n x2 n2 : Str} {c c2 : Value} {i i2 : Nat} {body suite suite2 : List Stmt} {s0 t0 : Stmt} {np np2 pos pos' pos2 : Pos} {tb : WX → TS} {ts ts2 : Addr → TS} {Wout : WX}
end
section
variable {X : Cx} {Wx : WX} {x n x2 n2 : Str} {c c2 : Value} {i i2 : Nat} {body suite suite2 : List Stmt} {s0 t0 : Stmt} {np np2 pos pos' pos2 : Pos} {fb fs fs2 : FS} {m m2 : Str → Option Bool}
end
end DL
namespace DL
open PySem PySem.Spec L2
end DL
set_option maxHeartbeats 4000000
namespace DL
open PySem PySem.Spec PyProof.Rows L2
section
variable {prog : Program} {w : World} {A : Around} {E : Value → Shared → Prop} {s : Shared}
end
section
variable {X : Cx} {Wx : WX}
end
end DL
set_option maxHeartbeats 4000000
namespace DL
open PySem PySem.Spec PyProof.Rows L2
section
variable {X : Cx} {Wx : WX}
end
end DL
set_option maxHeartbeats 1000000
namespace DL
open PySem PySem.Spec L2 PyProof.Rows
section
variable {X : Cx} {Wx : WX}
end
end DL
set_option maxHeartbeats 1000000
namespace TFI
open PySem PyProof.Rows SeqAt
end TFI
namespace DL
open PySem PySem.Spec L2 PyProof.Rows
section
variable {X : Cx} {Wx : WX}
end
end DL
namespace DL
open PySem PySem.Spec L2
section
variable {X : Cx}
end
end DL
namespace PySem.SeqAt
open AutoSeq1 (wpAny_loadPart')
open MeetsSeq MeetsSeq2 MeetsSeq3 SeqRoads2
section
variable {prog : Program} {w : World}
variable {A : Around} {E : Value → Shared → Prop} {s : Shared}
end
end PySem.SeqAt
namespace DL
open PySem PySem.Spec L2
section
variable {X : Cx} {Wx : WX}
end
end DL
set_option maxHeartbeats 1000000
namespace TPE
open PySem PySem.SeqAt
open AutoSeq1 (wpAny_loadPart')
open MeetsSeq MeetsSeq2 MeetsSeq3 SeqRoads2
section
variable {prog : Program} {w : World} {A : Around} {R : Result → Shared → Prop}
end
section
variable {prog : Program} {w : World} {A : Around} {E : Value → Shared → Prop} {s : Shared}
end
end TPE
namespace DL
open PySem PySem.Spec L2
section
variable {X : Cx} {Wx : WX}
open Classical in
end
end DL
namespace DL
open PySem PySem.Spec L2
mutual
def closedU : U → Bool
  | .loc _ => false
  | .tup us => closedUs us
  | .lst us => closedUs us
  | .frz us => closedUs us
  | .dic _ us => closedUs us
  | .exc _ _ u => closedU u
  | _ => true
def closedUs : List U → Bool
  | [] => true
  | u :: us => closedU u && closedUs us
end
mutual
def shU (b : Nat) : U → U
  | .loc n => .loc (b + n)
  | .tup us => .tup (shUs b us)
  | .lst us => .lst (shUs b us)
  | .frz us => .frz (shUs b us)
  | .dic ks us => .dic ks (shUs b us)
  | .exc c f u => .exc c f (shU b u)
  | u => u
def shUs (b : Nat) : List U → List U
  | [] => []
  | u :: us => shU b u :: shUs b us
end
def shOb (b : Nat) : Ob → Ob
  | .lst us => .lst (shUs b us)
  | .dic ks us => .dic ks (shUs b us)
  | .ins c fs => .ins c (fs.map fun p => (p.1, shU b p.2))
  | .kd ks us => .kd (shUs b ks) (shUs b us)
  | .dead => .dead
theorem shUs_map (b : Nat) : ∀ us : List U, shUs b us = us.map (shU b)
  | [] => rfl
  | u :: us => by unfold shUs; rw [shUs_map b us]; rfl
mutual
theorem sh_closed (b : Nat) : ∀ u : U, closedU u = true → shU b u = u
  | .loc _, h => by cases h
  | .tup us, h => by unfold shU; rw [shs_closed b us h]
  | .lst us, h => by unfold shU; rw [shs_closed b us h]
  | .frz us, h => by unfold shU; rw [shs_closed b us h]
  | .dic ks us, h => by unfold shU; rw [shs_closed b us h]
  | .exc c f u, h => by unfold shU; rw [sh_closed b u h]
  | .non, _ => rfl
  | .bl _, _ => rfl
  | .int _, _ => rfl
  | .str _, _ => rfl
  | .ty _, _ => rfl
  | .cl _, _ => rfl
theorem shs_closed (b : Nat) : ∀ us : List U, closedUs us = true → shUs b us = us
  | [], _ => rfl
  | u :: us, h => by
    unfold closedUs at h
    rw [Bool.and_eq_true] at h
    unfold shUs
    rw [sh_closed b u h.1, shs_closed b us h.2]
end
mutual
theorem keyN_sh (b : Nat) : ∀ u : U, keyN (shU b u) = keyN u
  | .loc _ => rfl
  | .tup us => by unfold shU keyN; rw [keyNs_sh b us]
  | .lst us => rfl
  | .frz us => rfl
  | .dic ks us => rfl
  | .exc c f u => rfl
  | .non => rfl
  | .bl _ => rfl
  | .int _ => rfl
  | .str _ => rfl
  | .ty _ => rfl
  | .cl _ => rfl
theorem keyNs_sh (b : Nat) : ∀ us : List U, keyNs (shUs b us) = keyNs us
  | [] => rfl
  | u :: us => by unfold shUs keyNs; rw [keyN_sh b u, keyNs_sh b us]
end
theorem keyT_sh (b : Nat) (u : U) : keyT (shU b u) = keyT u := by unfold keyT; rw [keyN_sh]
section
variable {K : KM} {w w' : Wd}
def notDead : Ob → Bool
  | .dead => false
  | _ => true
theorem notDead_iff {o : Ob} : notDead o = true ↔ o ≠ .dead := by cases o <;> simp [notDead]
def keptL (w : Wd) : List Addr := (List.range w.m.length).filterMap fun n => match w.m[n]?, w.S[n]? with
  | some a, some o => if notDead o = true then some a else none
  | _, _ => none
theorem keptL_mem {a : Addr} : a ∈ keptL w ↔ w.kept a := by
  unfold keptL
  rw [List.mem_filterMap]
  constructor
  · rintro ⟨n, _, h⟩
    split at h
    · rename_i a' o h1 h2
      split at h
      · rename_i h3
        cases h
        exact ⟨n, o, h1, h2, notDead_iff.mp h3⟩
      · cases h
    · cases h
  · rintro ⟨n, o, h1, h2, h3⟩
    refine ⟨n, List.mem_range.mpr (List.getElem?_eq_some_iff.mp h1).1, ?_⟩
    rw [h1, h2]
    dsimp only
    rw [if_pos (notDead_iff.mpr h3)]
def Wd.bare (w : Wd) : Wd := ⟨[], [], w.H, w.r ++ keptL w⟩
theorem bare_r {a : Addr} : a ∈ w.bare.r ↔ w.live a := by
  show a ∈ w.r ++ keptL w ↔ _
  rw [List.mem_append, keptL_mem]
  rfl
theorem bare_live {a : Addr} : w.bare.live a ↔ w.live a := by
  constructor
  · rintro (h | ⟨n, o, h, _⟩)
    · exact bare_r.mp h
    · cases h
  · exact fun h => .inl (bare_r.mpr h)
theorem SR.bare (s : SR K w) : SR K w.bare := by
  refine ⟨rfl, fun i j a o o' h => (by cases h), fun n a o h => (by cases h), fun a h => ?_, fun a _ ⟨n, o, h, _⟩ => (by cases h)⟩
  rcases bare_r.mp h with h | ⟨n, o, h1, h2, h3⟩
  · exact s.rk a h
  · have q := s.obj n a o h1 h2
    cases o with
    | lst us => obtain ⟨xs, e, _⟩ := q; exact ⟨_, e, .inl (.inl ⟨_, rfl⟩)⟩
    | dic ks us => obtain ⟨xs, e, _⟩ := q; exact ⟨_, e, .inl (.inr ⟨_, rfl⟩)⟩
    | ins c fs => obtain ⟨C, dx, xs, _, e, _⟩ := q; exact ⟨_, e, .inr (.inl ⟨_, _, _, rfl⟩)⟩
    | kd ks us => obtain ⟨L, e, _⟩ := q; exact ⟨_, e, .inr (.inr ⟨_, rfl⟩)⟩
    | dead => exact absurd rfl h3
mutual
theorem VR.bare : ∀ {u : U} {v : V}, closedU u = true → VR K w u v → VR K w.bare u v
  | _, _, _, .non => .non
  | _, _, _, .bl b => .bl b
  | _, _, _, .int i => .int i
  | _, _, _, .str y => .str y
  | _, _, c, .tup h r => .tup h (VRs.bare c r)
  | _, _, c, .lst h n r => .lst h (fun q => n (bare_live.mp q)) (VRs.bare c r)
  | _, _, c, .frz h r => .frz h (VRs.bare c r)
  | _, _, c, .dic h n l r => .dic h (fun q => n (bare_live.mp q)) l (VRs.bare c r)
  | _, _, c, .loc h => by cases c
  | _, _, _, .ty n => .ty n
  | _, _, c, .exc h h2 m r => .exc h h2 m (VR.bare c r)
  | _, _, _, .cl h => .cl h
theorem VRs.bare : ∀ {us : List U} {vs : List V}, closedUs us = true → VRs K w us vs → VRs K w.bare us vs
  | _, _, _, .nil => .nil
  | _, _, c, .cons h r => by
    unfold closedUs at c
    rw [Bool.and_eq_true] at c
    exact .cons (VR.bare c.1 h) (VRs.bare c.2 r)
end
def Wd.both (w w' : Wd) : Wd := ⟨w.m ++ w'.m, w.S ++ w'.S.map (shOb w.S.length), w'.H, w.r⟩
theorem both_kept (s : SR K w) (s' : SR K w') {a : Addr} (h : (w.both w').kept a) : w.kept a ∨ w'.kept a := by
  obtain ⟨n, o, h1, h2, h3⟩ := h
  have h1 : (w.m ++ w'.m)[n]? = some a := h1
  have h2 : (w.S ++ w'.S.map (shOb w.S.length))[n]? = some o := h2
  have l := s.len
  by_cases hn : n < w.m.length
  · rw [List.getElem?_append_left hn] at h1
    rw [List.getElem?_append_left (by omega)] at h2
    exact .inl ⟨n, o, h1, h2, h3⟩
  · rw [List.getElem?_append_right (by omega)] at h1 h2
    rw [List.getElem?_map] at h2
    obtain ⟨o', e1, e2⟩ := Option.map_eq_some_iff.mp h2
    rw [← l] at e1
    refine .inr ⟨_, o', h1, e1, fun z => h3 ?_⟩
    rw [← e2, z]
    rfl
theorem both_live (s : SR K w) (s' : SR K w') (st : Stp w.bare w') {a : Addr} (h : (w.both w').live a) : w'.live a := by
  rcases h with h | h
  · exact .inl (by rw [st.r]; exact bare_r.mpr (.inl h))
  · rcases both_kept s s' h with h | h
    · exact .inl (by rw [st.r]; exact bare_r.mpr (.inr h))
    · exact .inr h
mutual
theorem VR.both (s : SR K w) (s' : SR K w') (st : Stp w.bare w') : ∀ {u : U} {v : V}, VR K w' u v → VR K (w.both w') (shU w.S.length u) v
  | _, _, .non => .non
  | _, _, .bl b => .bl b
  | _, _, .int i => .int i
  | _, _, .str y => .str y
  | _, _, .tup h r => .tup h (VRs.both s s' st r)
  | _, _, .lst h n r => .lst h (fun q => n (both_live s s' st q)) (VRs.both s s' st r)
  | _, _, .frz h r => .frz h (VRs.both s s' st r)
  | _, _, .dic h n l r => .dic h (fun q => n (both_live s s' st q)) (by rw [shUs_map, List.length_map]; exact l) (VRs.both s s' st r)
  | _, _, .loc (n := n) h => .loc (by
    show (w.m ++ w'.m)[w.S.length + n]? = _
    rw [List.getElem?_append_right (by rw [s.len]; omega), s.len, Nat.add_sub_cancel_left]
    exact h)
  | _, _, .ty n => .ty n
  | _, _, .exc h h2 m r => .exc h h2 m (VR.both s s' st r)
  | _, _, .cl h => .cl h
theorem VRs.both (s : SR K w) (s' : SR K w') (st : Stp w.bare w') : ∀ {us : List U} {vs : List V}, VRs K w' us vs → VRs K (w.both w') (shUs w.S.length us) vs
  | _, _, .nil => .nil
  | _, _, .cons h r => .cons (VR.both s s' st h) (VRs.both s s' st r)
end
theorem Ext.both (s : SR K w) (s' : SR K w') (st : Stp w.bare w') : Ext w (w.both w') := by
  refine ⟨⟨w'.m, rfl⟩, fun a o h n => st.x.keep a o h (fun q => n (bare_live.mp q)), fun a h => ?_⟩
  rcases h with h | h
  · exact .inl (.inl h)
  · rcases both_kept s s' h with h | h
    · exact .inl (.inr h)
    · exact (st.x.live a (.inr h)).imp (fun q => bare_live.mp q) id
theorem both_at (st : Stp w.bare w') {a : Addr} (h : w.live a) : w'.H a = w.H a := st.k a (bare_r.mpr h)
theorem Stp.both (s : SR K w) (s' : SR K w') (st : Stp w.bare w') : Stp w (w.both w') := ⟨Ext.both s s' st, rfl, fun a h => both_at st (.inl h)⟩
theorem SR.both (s : SR K w) (s' : SR K w') (st : Stp w.bare w') : SR K (w.both w') := by
  have x := Ext.both s s' st
  have l := s.len
  have cut : ∀ {n : Nat} {a : Addr} {o : Ob}, (w.m ++ w'.m)[n]? = some a → (w.S ++ w'.S.map (shOb w.S.length))[n]? = some o → (w.m[n]? = some a ∧ w.S[n]? = some o) ∨ (w.m.length ≤ n ∧ w'.m[n - w.m.length]? = some a ∧ ∃ o', w'.S[n - w.m.length]? = some o' ∧ o = shOb w.S.length o') := fun {n a o} h1 h2 => by
    by_cases hn : n < w.m.length
    · rw [List.getElem?_append_left hn] at h1
      rw [List.getElem?_append_left (by omega)] at h2
      exact .inl ⟨h1, h2⟩
    · rw [List.getElem?_append_right (by omega)] at h1 h2
      rw [List.getElem?_map] at h2
      obtain ⟨o', e1, e2⟩ := Option.map_eq_some_iff.mp h2
      rw [← l] at e1
      exact .inr ⟨by omega, h1, o', e1, e2.symm⟩
  have dd : ∀ {o' : Ob}, shOb w.S.length o' ≠ .dead → o' ≠ .dead := fun {o'} h e => h (by rw [e]; rfl)
  have mix : ∀ {i j : Nat} {a : Addr} {o o' : Ob}, w.m[i]? = some a → w.S[i]? = some o → o ≠ .dead → w'.m[j]? = some a → w'.S[j]? = some o' → o' ≠ .dead → False := fun {i j a o o'} h1 h2 h3 h4 h5 h6 =>
    s'.rd a (by rw [st.r]; exact bare_r.mpr (.inr ⟨i, o, h1, h2, h3⟩)) ⟨j, o', h4, h5, h6⟩
  refine ⟨?_, fun i j a o o' h1 h2 h3 h4 d d' => ?_, fun n a o h1 h2 => ?_, fun a h => ?_, fun a h q => ?_⟩
  · show (w.m ++ w'.m).length = (w.S ++ w'.S.map (shOb w.S.length)).length
    rw [List.length_append, List.length_append, List.length_map, l, s'.len]
  · rcases cut h1 h3 with ⟨p1, p2⟩ | ⟨p0, p1, o1, p2, rfl⟩ <;> rcases cut h2 h4 with ⟨q1, q2⟩ | ⟨q0, q1, o2, q2, rfl⟩
    · exact s.inj i j a o o' p1 q1 p2 q2 d d'
    · exact (mix p1 p2 d q1 q2 (dd d')).elim
    · exact (mix q1 q2 d' p1 p2 (dd d)).elim
    · have := s'.inj _ _ a o1 o2 p1 q1 p2 q2 (dd d) (dd d')
      omega
  · rcases cut h1 h2 with ⟨p1, p2⟩ | ⟨p0, p1, o1, p2, rfl⟩
    · by_cases hd : o = .dead
      · subst hd; trivial
      · exact (s.obj n a o p1 p2).ext x s (both_at st (.inr ⟨n, o, p1, p2, hd⟩))
    · have q := s'.obj _ a o1 p1 p2
      cases o1 with
      | lst us => obtain ⟨xs, e, r⟩ := q; exact ⟨xs, e, VRs.both s s' st r⟩
      | dic ks us => obtain ⟨xs, e, l2, r⟩ := q; exact ⟨xs, e, by rw [shUs_map, List.length_map]; exact l2, VRs.both s s' st r⟩
      | ins c fs =>
        obtain ⟨C, dx, xs, m, e, r⟩ := q
        refine ⟨C, dx, xs, m, ?_, ?_⟩
        · show w'.H a = some (.ins C dx (((fs.map fun p => (p.1, shU w.S.length p.2)).map (·.1)).zip xs))
          rw [List.map_map]
          exact e
        · have := VRs.both s s' st r
          rw [shUs_map, List.map_map] at this
          show VRs K (w.both w') ((fs.map fun p => (p.1, shU w.S.length p.2)).map (·.2)) xs
          rw [List.map_map]
          exact this
      | kd ks us =>
        obtain ⟨L, e, r1, r2, r3⟩ := q
        refine ⟨L, e, VRs.both s s' st r1, ?_, VRs.both s s' st r3⟩
        rw [shUs_map, List.map_map, ← r2]
        exact List.map_congr_left fun u _ => keyT_sh _ u
      | dead => trivial
  · obtain ⟨o, e, m⟩ := s.rk a h
    exact ⟨o, (both_at st (.inl h)).trans e, m⟩
  · rcases both_kept s s' q with q | q
    · exact s.rd a h q
    · exact s'.rd a (by rw [st.r]; exact bare_r.mpr (.inl h)) q
end
def shR (b : Nat) (S : Sto) (r : R U) : R U := match r with
  | .ok u T => .ok (shU b u) (S ++ T.map (shOb b))
  | .exc x T => .exc ⟨x.cls, x.fld, shU b x.arg⟩ (S ++ T.map (shOb b))
  | .bad => .bad
def fresh (g : List U → Sto → R U) (us : List U) (S : Sto) : R U := guard (closedUs us) (shR S.length S (g us []))
end DL
namespace DL
open PySem PySem.Spec L2
section
variable {X : Cx} {Wx : WX}
end
end DL
set_option maxHeartbeats 1000000
namespace DL
open PySem PySem.Spec L2
structure FnG (P : Program) (w : World) (K : PySem.W.Frag) (mg : Str → Option Value) (base : Heap) (CX : CXT) (k : Nat) (f : Addr) (fd : FuncData) (ps : List Str) (sp : Sp) : Prop where
  len : ∀ vs H Q E, sp vs H Q E → vs.length = ps.length
  run : ∀ (A : Around) (outer : List Env) (s : Shared) (H : Hp) (args : Args) (us : List Value) (vs : List V) (Q : VK) (E : XK), A.guards = some [] → Room k A → Env0 P w K mg base A outer s H → BindsTo s fd args (ps.zip us) → Vals vs us → sp vs H Q E →
    codeAny (model P w) A (.call (.ref f) args) (CR CX outer P w H s Q E) s
section
variable {P : Program} {w : World} {K : PySem.W.Frag} {mg : Str → Option Value} {base : Heap} {CX : CXT} {f : Addr} {fd : FuncData} {ps N : List Str} {k : Nat}
theorem FnG.of {sp : Sp} (F : FnOk P w K mg base CX k f fd ps sp) : FnG P w K mg base CX k f fd ps sp := ⟨F.len, fun A outer s H args us vs Q E _ => F.run A outer s H args us vs Q E⟩
theorem FnG.imp {sp sp' : Sp} (F : FnG P w K mg base CX k f fd ps sp) (h : ∀ vs H Q E, sp' vs H Q E → sp vs H Q E) : FnG P w K mg base CX k f fd ps sp' :=
  ⟨fun vs H Q E q => F.len vs H Q E (h _ _ _ _ q), fun A outer s H args us vs Q E g hr he hb hv hs => F.run A outer s H args us vs Q E g hr he hb hv (h _ _ _ _ hs)⟩
end
section
open PyProof.Rows
end
section
variable {X : Cx}
end
section
variable {X : Cx} {Wx : WX}
end
end DL
set_option maxHeartbeats 1000000
namespace DL
open PySem PySem.Spec PyProof.Rows L2
section
variable {X : Cx} {Wx : WX}
end
end DL
set_option maxHeartbeats 1000000
namespace DL
open PySem PySem.Spec L2
section
variable {X : Cx} {Wx : WX}
structure InsP (K : PySem.W.Frag) (C : Addr) : Prop where
  lst : PySem.W.kitOne K (.type "list") (.ref C) = some false
  int : PySem.W.kitOne K (.type "int") (.ref C) = some false
end
end DL
namespace DL
open PySem PySem.Spec L2
end DL
namespace DL
open PySem PySem.Spec PyProof.Rows L2
section
variable {prog : Program} {w : World} {A : Around} {E : Value → Shared → Prop} {s : Shared}
end
section
variable {X : Cx} {Wx : WX} {pos : Pos}
end
end DL
namespace DL
open PySem PySem.Spec L2
section
variable {X : Cx}
end
end DL
set_option maxHeartbeats 1000000
namespace DL
open PySem PySem.Spec PyProof.Rows L2
section
variable {K : KM} {w w' : Wd} {n : Nat} {a : Addr} {od : Obj} {kvs : List (Key × V)} {o : HO} {b : Ob}
structure Lk (w : Wd) (n : Nat) (a : Addr) (od : Obj) (kvs : List (Key × V)) : Prop where
  m : w.m[n]? = some a
  h : w.H a = some (.frz od (.dK kvs))
  nl : ¬ w.live a
theorem Lk.ne (l : Lk w n a od kvs) {c : Addr} {u : HO} (h : w.H c = some u) (hn : u ≠ .frz od (.dK kvs)) : c ≠ a := fun e => by
  subst e
  exact hn (Option.some.inj (h.symm.trans l.h))
theorem Lk.kept (l : Lk w n a od kvs) {c : Addr} (h : (w.put n a o b).kept c) : c = a ∨ w.kept c := by
  obtain ⟨k, q, h1, h2, h3⟩ := h
  have h1 : w.m[k]? = some c := h1
  rcases get_set (show (w.S.set n b)[k]? = some q from h2) with ⟨z, _⟩ | ⟨z, y⟩
  · subst z
    exact .inl (Option.some.inj (h1.symm.trans l.m))
  · exact .inr ⟨k, q, h1, y, h3⟩
theorem Lk.live (l : Lk w n a od kvs) {c : Addr} (h : (w.put n a o b).live c) : c = a ∨ w.live c := by
  rcases h with h | h
  · exact .inr (.inl h)
  · exact (l.kept h).imp id .inr
theorem Lk.at (c : Addr) (h : c ≠ a) : (w.put n a o b).H c = w.H c := upd_ne h
mutual
theorem VR.unl (l : Lk w n a od kvs) : ∀ {u : U} {v : V}, VR K w u v → VR K (w.put n a o b) u v
  | _, _, .non => .non
  | _, _, .bl b => .bl b
  | _, _, .int i => .int i
  | _, _, .str y => .str y
  | _, _, .tup h r => .tup (h.imp (fun q => (Lk.at _ (l.ne q (by intro z; cases z))).trans q) id) (VRs.unl l r)
  | _, _, .lst h nl r => .lst ((Lk.at _ (l.ne h (by intro z; cases z))).trans h) (fun q => (l.live q).elim (l.ne h (by intro z; cases z)) nl) (VRs.unl l r)
  | _, _, .frz h r => .frz (h.imp (fun ⟨o', q⟩ => ⟨o', (Lk.at _ (l.ne q (by intro z; cases z))).trans q⟩) id) (VRs.unl l r)
  | _, _, .dic h nl e r => .dic ((Lk.at _ (l.ne h (by intro z; cases z))).trans h) (fun q => (l.live q).elim (l.ne h (by intro z; cases z)) nl) e (VRs.unl l r)
  | _, _, .loc h => .loc h
  | _, _, .ty n => .ty n
  | _, _, .exc h h2 c r => .exc ((Lk.at _ (l.ne h (by intro z; unfold exv at z; cases z))).trans h) ((Lk.at _ (l.ne h2 (by intro z; cases z))).trans h2) c (VR.unl l r)
  | _, _, .cl h => .cl h
theorem VRs.unl (l : Lk w n a od kvs) : ∀ {us : List U} {vs : List V}, VRs K w us vs → VRs K (w.put n a o b) us vs
  | _, _, .nil => .nil
  | _, _, .cons h r => .cons (VR.unl l h) (VRs.unl l r)
end
theorem SR.unl (s : SR K w) (l : Lk w n a od kvs) (hr : a ∉ w.r) (hb : OR K (w.put n a o b) b a) : SR K (w.put n a o b) := by
  have ka : ∀ {k : Nat} {q : Ob}, w.m[k]? = some a → w.S[k]? = some q → q ≠ Ob.dead → False := fun h1 h2 h3 => l.nl (.inr ⟨_, _, h1, h2, h3⟩)
  refine ⟨by show w.m.length = (w.S.set n b).length; simp [s.len], fun i j c d d' h1 h2 h3 h4 e e' => ?_, fun k c d h1 h2 => ?_, fun c h => ?_, fun c h q => ?_⟩
  · have h1 : w.m[i]? = some c := h1
    have h2 : w.m[j]? = some c := h2
    rcases get_set (show (w.S.set n b)[i]? = some d from h3) with ⟨z, _⟩ | ⟨z, y⟩
    · rcases get_set (show (w.S.set n b)[j]? = some d' from h4) with ⟨z', _⟩ | ⟨z', y'⟩
      · rw [z, z']
      · rw [z] at h1
        cases l.m.symm.trans h1
        exact (ka h2 y' e').elim
    · rcases get_set (show (w.S.set n b)[j]? = some d' from h4) with ⟨z', _⟩ | ⟨z', y'⟩
      · rw [z'] at h2
        cases l.m.symm.trans h2
        exact (ka h1 y e).elim
      · exact s.inj i j c d d' h1 h2 y y' e e'
  · have h1 : w.m[k]? = some c := h1
    rcases get_set (show (w.S.set n b)[k]? = some d from h2) with ⟨z, y⟩ | ⟨z, y⟩
    · subst z y
      cases l.m.symm.trans h1
      exact hb
    · have q := s.obj k c d h1 y
      by_cases hd : d = .dead
      · subst hd; trivial
      have hc : c ≠ a := fun e => by subst e; exact ka h1 y hd
      cases d with
      | lst us => obtain ⟨xs, e, r⟩ := q; exact ⟨xs, (Lk.at _ hc).trans e, r.unl l⟩
      | dic ks us => obtain ⟨xs, e, e2, r⟩ := q; exact ⟨xs, (Lk.at _ hc).trans e, e2, r.unl l⟩
      | ins c' fs => obtain ⟨C, dx, xs, m, e, r⟩ := q; exact ⟨C, dx, xs, m, (Lk.at _ hc).trans e, r.unl l⟩
      | kd ks us => obtain ⟨L, e, r1, r2, r3⟩ := q; exact ⟨L, (Lk.at _ hc).trans e, r1.unl l, r2, r3.unl l⟩
      | dead => trivial
  · obtain ⟨x, e, mo⟩ := s.rk c h
    exact ⟨x, (Lk.at _ fun z => hr (by rw [← z]; exact h)).trans e, mo⟩
  · rcases l.kept q with z | z
    · exact hr (by rw [← z]; exact h)
    · exact s.rd c h z
theorem ER.unl {d : En} {σ : L2.St} (l : Lk w n a od kvs) (e : ER K w d σ) : ER K (w.put n a o b) d σ :=
  ⟨e.len, fun i u h => let ⟨v, h1, h2⟩ := e.get i u h; ⟨v, h1, h2.unl l⟩⟩
theorem Stp.unl {b0 : Ob} (s : SR K w) (hm : w.m[n]? = some a) (hS : w.S[n]? = some b0) (hd : b0 ≠ Ob.dead) (st : Stp (w.put n a o .dead) w') : Stp w (w'.put n a (.dK kvs) b0) := by
  have hl : w.live a := .inr ⟨n, b0, hm, hS, hd⟩
  have hr : a ∉ w.r := fun z => s.rd a z ⟨n, b0, hm, hS, hd⟩
  have hk : ∀ {c : Addr}, (w.put n a o .dead).live c → w.live c := fun {c} h => h.elim .inl fun ⟨k, q, h1, h2, h3⟩ => by
    have h1 : w.m[k]? = some c := h1
    rcases get_set (show (w.S.set n .dead)[k]? = some q from h2) with ⟨_, y⟩ | ⟨_, y⟩
    · exact absurd y h3
    · exact .inr ⟨k, q, h1, y, h3⟩
  refine ⟨⟨st.x.m, fun c u h nl => ?_, fun c h => ?_⟩, st.r, fun c h => ?_⟩
  · have hc : c ≠ a := fun e => nl (by rw [e]; exact hl)
    exact (Lk.at _ hc).trans (st.x.keep c u ((Lk.at _ hc).trans h) fun q => nl (hk q))
  · by_cases e : c = a
    · rw [e]; exact .inl hl
    have h2 : w'.live c := by
      rcases h with h | ⟨k, q, h1, h2, h3⟩
      · exact .inl h
      · have h1 : w'.m[k]? = some c := h1
        rcases get_set (show (w'.S.set n b0)[k]? = some q from h2) with ⟨z, _⟩ | ⟨_, y⟩
        · obtain ⟨ml, em⟩ := st.x.m
          have em : w'.m = w.m ++ ml := em
          rw [z, em, List.getElem?_append_left (List.getElem?_eq_some_iff.mp hm).1, hm] at h1
          exact absurd (Option.some.inj h1).symm e
        · exact .inr ⟨k, q, h1, y, h3⟩
    rcases st.x.live c h2 with q | q
    · exact .inl (hk q)
    · exact .inr ((Lk.at (w := w) (n := n) (o := o) (b := .dead) _ e).symm.trans q)
  · have hc : c ≠ a := fun e => hr (by rw [← e]; exact h)
    exact (Lk.at _ hc).trans ((st.k c h).trans (Lk.at _ hc))
end
section
variable {X : Cx} {Wx : WX} {e : Expr} {body : List Stmt} {pos tpos apos cpos : Pos} {elts : List Expr} {kk : Nat}
end
end DL
namespace DL
open PySem PySem.Spec PyProof.Rows L2
section
variable {X : Cx}
end
end DL
namespace DL
open PySem PySem.Spec PyProof.Rows L2
section
variable {X : Cx} {Wx : WX}
end
end DL
namespace DL
open PySem PySem.Spec PyProof.Rows L2
section
variable {X : Cx} {Wx : WX} {pos : Pos}
end
end DL
set_option maxHeartbeats 1000000
namespace DL
open PySem PySem.Spec L2
section
variable {X : Cx} {Wx : WX}
end
end DL
namespace DL
open PySem PySem.Spec L2
section
variable {X : Cx}
end
end DL
set_option maxHeartbeats 4000000
namespace DL
open PySem PySem.Spec PyProof.Rows L2
section
variable {X : Cx} {Wx : WX}
end
end DL
set_option maxHeartbeats 4000000
namespace DL
open PySem PySem.Spec PyProof.Rows L2
section
variable {X : Cx} {Wx : WX} {pos : Pos} {tg iter elt c : Expr} {body : List Stmt}
end
def aKeysAt (n : Nat) (ks : List Key) (fe : FE) : FA := fun d S => (fe d S).bind fun u S1 => match u with
  | .loc m => if m = n then .ok (ks.map kU) S1 else .bad
  | _ => .bad
theorem upd_comm {H : Hp} {a p : Addr} {u v : HO} (h : a ≠ p) : upd (upd H p u) a v = upd (upd H a v) p u := by
  funext b
  by_cases e : b = a
  · subst e
    rw [upd_same, upd_ne h, upd_same]
  · rw [upd_ne e]
    by_cases e2 : b = p
    · subst e2
      rw [upd_same, upd_same]
    · rw [upd_ne e2, upd_ne e2, upd_ne e]
section
variable {X : Cx} {Wx : WX} {pos : Pos} {tg elt iter : Expr} {ifs : List Expr} {scope : Scope} {own : List (Str × Nat)} {fi : FE} {is vs : List Nat} {g : U → En → Option En} {ft : FT} {fe : FE}
end
end DL
set_option maxHeartbeats 4000000
namespace DL
open PySem PySem.Spec PyProof.Rows L2
structure ZSt (z TI TO i1 i2 a b : Addr) (i : Nat) (h : Heap) : Prop where
  z : IsZip h z TI TO .none
  ti : IsTupOf2 h TI (.ref i1) (.ref i2)
  to : ∃ x y, IsTupOf2 h TO x y
  one : h.IsListIter i1 a i
  two : h.IsTupleIter i2 b i
theorem ZSt.low {z TI TO i1 i2 a b : Addr} {i : Nat} {h : Heap} (st : ZSt z TI TO i1 i2 a b i h) {c : Addr} (hc : c ∈ [z, TI, TO, i1, i2]) : c < h.objs.size := by
  obtain ⟨x, y, e3⟩ := st.to
  obtain ⟨o1, e4, _⟩ := st.one
  obtain ⟨o2, e5, _⟩ := st.two
  simp only [List.mem_cons, List.mem_nil_iff, or_false] at hc
  rcases hc with rfl | rfl | rfl | rfl | rfl
  · exact Heap.lt_size st.z
  · exact Heap.lt_size st.ti
  · exact Heap.lt_size e3
  · exact Heap.lt_size e4
  · exact Heap.lt_size e5
section
variable {X : Cx} {Wx : WX}
end
end DL
set_option maxHeartbeats 1000000
namespace DL
open PySem PySem.Spec L2
section
variable {prog : Program} {w : World} {A : Around} {E : Value → Shared → Prop} {s : Shared} {I : Addr} {fp wr : List Addr} {n : Nat} {P : Nat → Value → Prop} {St : Nat → Heap → Prop} {val : Nat → Int} {c : Int}
end
section
variable {X : Cx} {Wx : WX}
end
end DL
namespace DL
open PySem PySem.Spec PyProof.Rows L2
section
variable {prog : Program} {w : World} {A : Around} {E : Value → Shared → Prop} {s : Shared}
end
section
variable {X : Cx} {Wx : WX} {pos : Pos}
end
end DL
namespace DL
open PySem PySem.Spec L2
section
variable {X : Cx}
end
end DL
set_option maxHeartbeats 1000000
namespace DL
open PySem PySem.Spec PyProof.Rows L2
section
variable {X : Cx}
end
section
variable {K : KM} {w : Wd}
end
section
variable {X : Cx} {Wx : WX}
section
variable {tg iter kx vx : Expr} {pos : Pos} {ifs : List Expr} {scope : Scope} {own : List (Str × Nat)} {fi : FA} {is vs : List Nat} {g : U → En → Option En} {ft : FT} {fk fv : FE}
end
end
end DL
set_option maxHeartbeats 1000000
namespace DL
open PySem PySem.Spec PyProof.Rows L2
section
variable {X : Cx} {Wx : WX}
end
end DL
set_option maxHeartbeats 1000000
namespace DL
open PySem PySem.Spec PyProof.Rows L2
section
variable {X : Cx} {Wx : WX}
end
end DL
set_option maxHeartbeats 4000000
namespace DL
open PySem PySem.Spec L2 PyProof.Rows
section
variable {M : Model} {K : PySem.W.Frag}
end
theorem flyZ_keeps {B h h' : Heap} {l : List Env} {e : Addr} {Z : Obj → Prop} (x : PySem.PX.FlyingZ B l e Z h) (k : ∀ b o, h.get? b = some o → h'.get? b = some o) : PySem.PX.FlyingZ B l e Z h' := by
  obtain ⟨f1, f2, f3, oe, vs, T, oT, ts, he, hz, hd, h1, hn, hne, hT, hdT, h3⟩ := x
  exact ⟨fun b o q => k b o (f1 b o q), f2, Heap.FunFrames.of_keeps (fun b o q _ => ⟨o, k b o q, rfl⟩) f3, oe, vs, T, oT, ts, k _ _ he, hz, hd, h1, hn, hne, k _ _ hT, hdT, h3⟩
def wTryT (K : PySem.W.Frag) (cs : List Value) (i : Nat) (ts : Addr → TS) (Wout : WX) (D : Ends) : WX := fun cls d σ H =>
  ∃ b, PySem.W.exmAny K cls cs = some b ∧ (b = true → ∃ C dd, cls = .ref C ∧ d = some dd ∧ ∀ a, H a = none → ts a { nx := fun σ' H' => D.nx (σ'.set i none) H', rt := D.rt, bk := fun σ' H' => D.bk (σ'.set i none) H', ct := fun σ' H' => D.ct (σ'.set i none) H' } (σ.set i (some (.ref a))) (upd H a (exv a C dd))) ∧
    (b = false → Wout cls d σ H)
section
variable {X : Cx} {x1 x2 x3 x4 x5 n : Str} {c1 c2 c3 c4 c5 : Value} {p1 p2 p3 p4 p5 tp : Pos} {kk : Nat} {i : Nat} {body suite : List Stmt} {s0 : Stmt} {np pos pos' : Pos} {tb : WX → TS} {ts : Addr → TS} {Wout : WX}
end
section
variable {X : Cx} {Wx : WX} {x1 x2 x3 x4 x5 n : Str} {c1 c2 c3 c4 c5 : Value} {p1 p2 p3 p4 p5 tp : Pos} {kk : Nat} {i : Nat} {body suite : List Stmt} {s0 : Stmt} {np pos pos' : Pos} {fb fs : FS} {m : Str → Option Bool}
end
def lookAny : List (Str → Option Bool) → Str → Option Bool
  | [], _ => some false
  | m :: r, z => match m z, lookAny r z with
    | some b, some d => some (b || d)
    | _, _ => none
def ExA (K : PySem.W.Frag) (mg : Str → Option Value) (cs : List Value) (m : Str → Option Bool) : Prop := ∀ z b, m z = some b → ∀ cls, mg z = some cls → PySem.W.exmAny K cls cs = some b
theorem exa_nil {K : PySem.W.Frag} {mg : Str → Option Value} : ExA K mg [] (lookAny []) := fun z b h cls hc => by cases h; rfl
theorem exa_cons {K : PySem.W.Frag} {mg : Str → Option Value} {c : Value} {cs : List Value} {m : Str → Option Bool} {ms : List (Str → Option Bool)} (h : ExOk K mg c m) (r : ExA K mg cs (lookAny ms)) : ExA K mg (c :: cs) (lookAny (m :: ms)) := fun z b q cls hc => by
  unfold lookAny at q
  split at q
  · rename_i b1 b2 e1 e2
    cases q
    unfold PySem.W.exmAny
    rw [(h z b1 e1 cls hc).1, r z b2 e2 cls hc]
  · cases q
theorem exa_ok {K : PySem.W.Frag} {mg : Str → Option Value} {c : Value} {cs : List Value} {m : Str → Option Bool} {ms : List (Str → Option Bool)} (h : ExOk K mg c m) (r : ExA K mg cs (lookAny ms)) : ∀ z b, lookAny (m :: ms) z = some b → ∀ cls, mg z = some cls → PySem.W.exmAny K cls (c :: cs) = some b ∧ ∃ C, cls = .ref C := fun z b q cls hc => ⟨exa_cons h r z b q cls hc, by
  unfold lookAny at q
  split at q
  · rename_i b1 b2 e1 e2
    exact (h z b1 e1 cls hc).2
  · cases q⟩
end DL
set_option maxHeartbeats 1000000
namespace DL
open PySem PySem.Spec PyProof.Rows L2
section
variable {X : Cx} {pins : List (Addr × Obj)} {σ : L2.St} {H : Hp} {s : Shared} {d : Addr} {o : Obj}
end
section
variable {P : Program} {w : World} {K : PySem.W.Frag} {d : Addr} {o : Obj} {es : Array DictEntry} {ep : Nat}
end
section
variable {X : Cx} {e : Expr} {td : TE} {apos cpos : Pos}
end
section
variable {K : KM} {w w' : Wd} {n : Nat} {a : Addr} {od : Obj} {P : Program} {W : World} {L : List (NestedKey × Addr × V)} {o : HO} {b : Ob}
structure LkN (w : Wd) (n : Nat) (a : Addr) (od : Obj) (P : Program) (W : World) (L : List (NestedKey × Addr × V)) : Prop where
  m : w.m[n]? = some a
  h : w.H a = some (.frz od (KdO P W a L))
  nl : ¬ w.live a
theorem LkN.ne (l : LkN w n a od P W L) {c : Addr} {u : HO} (h : w.H c = some u) (hn : u ≠ .frz od (KdO P W a L)) : c ≠ a := fun e => by
  subst e
  exact hn (Option.some.inj (h.symm.trans l.h))
theorem LkN.kept (l : LkN w n a od P W L) {c : Addr} (h : (w.put n a o b).kept c) : c = a ∨ w.kept c := by
  obtain ⟨k, q, h1, h2, h3⟩ := h
  have h1 : w.m[k]? = some c := h1
  rcases get_set (show (w.S.set n b)[k]? = some q from h2) with ⟨z, _⟩ | ⟨z, y⟩
  · subst z
    exact .inl (Option.some.inj (h1.symm.trans l.m))
  · exact .inr ⟨k, q, h1, y, h3⟩
theorem LkN.live (l : LkN w n a od P W L) {c : Addr} (h : (w.put n a o b).live c) : c = a ∨ w.live c := by
  rcases h with h | h
  · exact .inr (.inl h)
  · exact (l.kept h).imp id .inr
theorem LkN.at (c : Addr) (h : c ≠ a) : (w.put n a o b).H c = w.H c := upd_ne h
mutual
theorem VR.unlN (l : LkN w n a od P W L) : ∀ {u : U} {v : V}, VR K w u v → VR K (w.put n a o b) u v
  | _, _, .non => .non
  | _, _, .bl b => .bl b
  | _, _, .int i => .int i
  | _, _, .str y => .str y
  | _, _, .tup h r => .tup (h.imp (fun q => (LkN.at _ (l.ne q (by intro z; cases z))).trans q) id) (VRs.unlN l r)
  | _, _, .lst h nl r => .lst ((LkN.at _ (l.ne h (by intro z; cases z))).trans h) (fun q => (l.live q).elim (l.ne h (by intro z; cases z)) nl) (VRs.unlN l r)
  | _, _, .frz h r => .frz (h.imp (fun ⟨o', q⟩ => ⟨o', (LkN.at _ (l.ne q (by intro z; cases z))).trans q⟩) id) (VRs.unlN l r)
  | _, _, .dic h nl e r => .dic ((LkN.at _ (l.ne h (by intro z; cases z))).trans h) (fun q => (l.live q).elim (l.ne h (by intro z; cases z)) nl) e (VRs.unlN l r)
  | _, _, .loc h => .loc h
  | _, _, .ty n => .ty n
  | _, _, .exc h h2 c r => .exc ((LkN.at _ (l.ne h (by intro z; unfold exv at z; cases z))).trans h) ((LkN.at _ (l.ne h2 (by intro z; cases z))).trans h2) c (VR.unlN l r)
  | _, _, .cl h => .cl h
theorem VRs.unlN (l : LkN w n a od P W L) : ∀ {us : List U} {vs : List V}, VRs K w us vs → VRs K (w.put n a o b) us vs
  | _, _, .nil => .nil
  | _, _, .cons h r => .cons (VR.unlN l h) (VRs.unlN l r)
end
theorem SR.unlN (s : SR K w) (l : LkN w n a od P W L) (hr : a ∉ w.r) (hb : OR K (w.put n a o b) b a) : SR K (w.put n a o b) := by
  have ka : ∀ {k : Nat} {q : Ob}, w.m[k]? = some a → w.S[k]? = some q → q ≠ Ob.dead → False := fun h1 h2 h3 => l.nl (.inr ⟨_, _, h1, h2, h3⟩)
  refine ⟨by show w.m.length = (w.S.set n b).length; simp [s.len], fun i j c d d' h1 h2 h3 h4 e e' => ?_, fun k c d h1 h2 => ?_, fun c h => ?_, fun c h q => ?_⟩
  · have h1 : w.m[i]? = some c := h1
    have h2 : w.m[j]? = some c := h2
    rcases get_set (show (w.S.set n b)[i]? = some d from h3) with ⟨z, _⟩ | ⟨z, y⟩
    · rcases get_set (show (w.S.set n b)[j]? = some d' from h4) with ⟨z', _⟩ | ⟨z', y'⟩
      · rw [z, z']
      · rw [z] at h1
        cases l.m.symm.trans h1
        exact (ka h2 y' e').elim
    · rcases get_set (show (w.S.set n b)[j]? = some d' from h4) with ⟨z', _⟩ | ⟨z', y'⟩
      · rw [z'] at h2
        cases l.m.symm.trans h2
        exact (ka h1 y e).elim
      · exact s.inj i j c d d' h1 h2 y y' e e'
  · have h1 : w.m[k]? = some c := h1
    rcases get_set (show (w.S.set n b)[k]? = some d from h2) with ⟨z, y⟩ | ⟨z, y⟩
    · subst z y
      cases l.m.symm.trans h1
      exact hb
    · have q := s.obj k c d h1 y
      by_cases hd : d = .dead
      · subst hd; trivial
      have hc : c ≠ a := fun e => by subst e; exact ka h1 y hd
      cases d with
      | lst us => obtain ⟨xs, e, r⟩ := q; exact ⟨xs, (LkN.at _ hc).trans e, r.unlN l⟩
      | dic ks us => obtain ⟨xs, e, e2, r⟩ := q; exact ⟨xs, (LkN.at _ hc).trans e, e2, r.unlN l⟩
      | ins c' fs => obtain ⟨C, dx, xs, m, e, r⟩ := q; exact ⟨C, dx, xs, m, (LkN.at _ hc).trans e, r.unlN l⟩
      | kd ks us => obtain ⟨L2, e, r1, r2, r3⟩ := q; exact ⟨L2, (LkN.at _ hc).trans e, r1.unlN l, r2, r3.unlN l⟩
      | dead => trivial
  · obtain ⟨x, e, mo⟩ := s.rk c h
    exact ⟨x, (LkN.at _ fun z => hr (by rw [← z]; exact h)).trans e, mo⟩
  · rcases l.kept q with z | z
    · exact hr (by rw [← z]; exact h)
    · exact s.rd c h z
theorem ER.unlN {d : En} {σ : L2.St} (l : LkN w n a od P W L) (e : ER K w d σ) : ER K (w.put n a o b) d σ :=
  ⟨e.len, fun i u h => let ⟨v, h1, h2⟩ := e.get i u h; ⟨v, h1, h2.unlN l⟩⟩
theorem Stp.unlN {b0 : Ob} (s : SR K w) (hm : w.m[n]? = some a) (hS : w.S[n]? = some b0) (hd : b0 ≠ Ob.dead) (st : Stp (w.put n a o .dead) w') : Stp w (w'.put n a (KdO P W a L) b0) := by
  have hl : w.live a := .inr ⟨n, b0, hm, hS, hd⟩
  have hr : a ∉ w.r := fun z => s.rd a z ⟨n, b0, hm, hS, hd⟩
  have hk : ∀ {c : Addr}, (w.put n a o .dead).live c → w.live c := fun {c} h => h.elim .inl fun ⟨k, q, h1, h2, h3⟩ => by
    have h1 : w.m[k]? = some c := h1
    rcases get_set (show (w.S.set n .dead)[k]? = some q from h2) with ⟨_, y⟩ | ⟨_, y⟩
    · exact absurd y h3
    · exact .inr ⟨k, q, h1, y, h3⟩
  refine ⟨⟨st.x.m, fun c u h nl => ?_, fun c h => ?_⟩, st.r, fun c h => ?_⟩
  · have hc : c ≠ a := fun e => nl (by rw [e]; exact hl)
    exact (LkN.at _ hc).trans (st.x.keep c u ((LkN.at _ hc).trans h) fun q => nl (hk q))
  · by_cases e : c = a
    · rw [e]; exact .inl hl
    have h2 : w'.live c := by
      rcases h with h | ⟨k, q, h1, h2, h3⟩
      · exact .inl h
      · have h1 : w'.m[k]? = some c := h1
        rcases get_set (show (w'.S.set n b0)[k]? = some q from h2) with ⟨z, _⟩ | ⟨_, y⟩
        · obtain ⟨ml, em⟩ := st.x.m
          have em : w'.m = w.m ++ ml := em
          rw [z, em, List.getElem?_append_left (List.getElem?_eq_some_iff.mp hm).1, hm] at h1
          exact absurd (Option.some.inj h1).symm e
        · exact .inr ⟨k, q, h1, y, h3⟩
    rcases st.x.live c h2 with q | q
    · exact .inl (hk q)
    · exact .inr ((LkN.at (w := w) (n := n) (o := o) (b := .dead) _ e).symm.trans q)
  · have hc : c ≠ a := fun e => hr (by rw [← e]; exact h)
    exact (LkN.at _ hc).trans ((st.k c h).trans (LkN.at _ hc))
end
section
variable {X : Cx} {Wx : WX} {e : Expr} {body : List Stmt} {pos tpos apos cpos : Pos} {elts : List Expr} {kk : Nat}
end
end DL
set_option maxHeartbeats 1000000
namespace DL
open PySem PySem.Spec L2 PyProof.Rows
section
variable {X : Cx} {Wx : WX}
end
end DL
set_option maxHeartbeats 1000000
namespace DL
open PySem PySem.Spec PyProof.Rows L2
section
variable {P : Program} {w : World} {K : PySem.W.Frag} {tg : Expr} {d : Addr} {o : Obj} {es : Array DictEntry} {ep : Nat}
end
section
variable {X : Cx} {Wx : WX}
structure Lkd (K : KM) (w : Wd) (n : Nat) (a : Addr) (od : Obj) (L : List (NestedKey × Addr × V)) (ks us : List U) : Prop where
  l : LkN w n a od K.P K.wd L
  k : VRs K w ks (L.map fun x => V.ref x.2.1)
  n : ks.map keyT = L.map (fun x => some x.1)
  v : VRs K w us (L.map (·.2.2))
theorem Lkd.keys {w : Wd} {n : Nat} {a : Addr} {od : Obj} {L : List (NestedKey × Addr × V)} {ks us : List U} (h : Lkd (KMof X) w n a od L ks us) : ∀ y ∈ L, KAt X w.H y.2.1 y.1 := fun x hx => by
  obtain ⟨i, hi⟩ := List.mem_iff_getElem?.mp hx
  obtain ⟨y, hy, ry⟩ := h.k.get' (v := V.ref x.2.1) (i := i) (by rw [List.getElem?_map, hi]; rfl)
  have ek : keyT y = some x.1 := by
    have := congrArg (·[i]?) h.n
    simp only [List.getElem?_map, hi, hy, Option.map_some, Option.some.injEq] at this
    exact this
  obtain ⟨b, e1, e2⟩ := kat_of ry ek
  cases e1
  exact e2
end
section
variable {X : Cx} {Wx : WX}
end
end DL
set_option maxHeartbeats 1000000
namespace DL
open PySem PySem.Spec L2
section
variable {prog : Program} {w : World} {A : Around} {R : Result → Shared → Prop}
end
section
variable {X : Cx} {Wx : WX}
end
end DL
namespace DL
open PySem PySem.Spec L2
structure FunP (K : PySem.W.Frag) (x qual : Str) (st : Stmt) (f : Addr) (fd : FuncData) : Prop where
  ex : ∃ (oc : Value) (od : Option Addr) (dV kV doc pm : Value) (an : Option Addr) (cdv ct : Value) (osl : Array (Option Value)),
    fd = PySem.W.fnOf x qual (defArgs st) (defBody st) (defScope st) dV kV doc pm an cdv ct ∧ K.lookup f = some ⟨oc, od, .func fd, osl⟩ ∧ PySem.W.codeIn K cdv qual = true
  kp : PySem.W.keepIn K (.ref f) = true
end DL
set_option maxHeartbeats 4000000
namespace PySem
open Sem (wp)
abbrev IsZipF (h : Heap) (z TI TO : Addr) (own : Value) (fl : Bool) : Prop :=
  h.get? z = some { cls := .type "zip", data := .fields #[own, .bool fl, .bool false, .ref TI, .ref TO] }
def OwnOk (own : Value) : Prop := own = .none ∨ ∃ a : Nat, own = rawInt a
section
variable {prog : Program} {w : World} {A : Around} {E : Value → Shared → Prop} {s : Shared} {z TI TO i1 i2 : Addr} {fp1 fp2 : List Addr} {n1 n2 i : Nat} {P1 P2 : Nat → Value → Prop} {St1 St2 : Nat → Heap → Prop} {a1 a2 : Value}
end
end PySem
namespace DL
open PySem PySem.Spec PyProof.Rows L2
structure EZSt (e z TI TO i1 i2 a b : Addr) (i : Nat) (h : Heap) : Prop where
  en : ∃ old, IsEnum h e z ((i : Nat) : Int) old
  zi : ∃ own fl, OwnOk own ∧ IsZipF h z TI TO own fl
  ti : IsTupOf2 h TI (.ref i1) (.ref i2)
  to : ∃ x y, IsTupOf2 h TO x y
  one : h.IsListIter i1 a i
  two : h.IsListIter i2 b i
theorem EZSt.low {e z TI TO i1 i2 a b : Addr} {i : Nat} {h : Heap} (st : EZSt e z TI TO i1 i2 a b i h) {c : Addr} (hc : c ∈ [e, z, TI, TO, i1, i2]) : c < h.objs.size := by
  obtain ⟨old, q0⟩ := st.en
  obtain ⟨own, fl, _, q1⟩ := st.zi
  obtain ⟨x, y, q3⟩ := st.to
  obtain ⟨o1, q4, _⟩ := st.one
  obtain ⟨o2, q5, _⟩ := st.two
  simp only [List.mem_cons, List.mem_nil_iff, or_false] at hc
  rcases hc with rfl | rfl | rfl | rfl | rfl | rfl
  · exact Heap.lt_size q0
  · exact Heap.lt_size q1
  · exact Heap.lt_size st.ti
  · exact Heap.lt_size q3
  · exact Heap.lt_size q4
  · exact Heap.lt_size q5
structure EZSep (e z TI TO i1 i2 : Addr) : Prop where
  z : e ≠ z
  ti : e ≠ TI
  to : e ≠ TO
  one : e ≠ i1
  two : e ≠ i2
section
variable {X : Cx} {Wx : WX}
end
end DL
set_option maxHeartbeats 4000000
namespace DL
open PySem PySem.Spec PyProof.Rows L2
section
variable {X : Cx} {Wx : WX} {pos : Pos} {tg elt iter : Expr} {ifs : List Expr} {scope : Scope} {own : List (Str × Nat)} {fi : FE} {is vs : List Nat} {g : U → En → Option En} {ft : FT} {fe : FE}
end
end DL
set_option maxHeartbeats 1000000
namespace DL
open PySem PySem.Spec PyProof.Rows L2
section
variable {X : Cx} {Wx : WX} {tg iter : Expr} {body : List Stmt} {pos : Pos}
end
end DL
set_option maxHeartbeats 1000000
namespace DL
open PySem PySem.Spec PyProof.Rows L2
section
variable {X : Cx} {Wx : WX}
end
end DL
set_option maxHeartbeats 1000000
namespace DL
open PySem PySem.Spec PyProof.Rows L2
section
variable {X : Cx} {body fs : List Stmt} {f₀ : Stmt} {pos : Pos} {tb : WX → TS} {tf tfs : TS} {Wout : WX}
theorem fin_next {D : Ends} {pins : List (Addr × Obj)} {s : Shared} {σ : L2.St} {H : Hp} {E : Value → Shared → Prop} (hf : PSs X.nox (f₀ :: fs) tf) (I : Inv X pins σ H s) (h : tf D σ H) :
    wpAny (model X.prog X.w) X.A (execs (f₀ :: fs) X.env) (fun g s' => match g with
      | .next => SP X pins D .next s'
      | g => SP X pins D g s') E s := by
  refine wpAny_mono (hf.run pins s σ H D (I.wish _) h) (fun g s1 q => ?_) fun _ _ z => False.elim z
  have q' : SP X pins D g s1 := q.unwish
  cases g with
  | next => exact q'
  | ret w2 => exact q'
  | brk => exact q'
  | cont => exact q'
theorem ps_finX (hs : X.stack = X.env :: X.outer) (hf : X.env.frame = some X.env.locals) (hex : X.ex = []) (tk : Takes X Wout)
    (hb : ∀ (W : WX) (pn : List (Addr × Obj)) (xe : Value → Shared → Prop), Takes (X.tr pn xe) W → PassesOwn (model X.prog X.w) X.A X.env xe → PSs (X.tr pn xe) body (tb W))
    (hfin : PSs X.nox (f₀ :: fs) tf) (hsu : ∀ (a : Addr) (pn : List (Addr × Obj)), PSs (X.suite a pn) (f₀ :: fs) tfs) :
    PS X (.Try body [] [] (f₀ :: fs) pos) (fun D σ H => tb (wFin tfs Wout) { nx := fun σ1 H1 => tf D σ1 H1, rt := fun _ _ => False } σ H) := by
  refine ⟨fun pins s σ H D I h => ?_⟩
  have ok := I.ok
  refine wpAny_Try_finally ?_
  refine wpAny_mono ((hb (wFin tfs Wout) (X.pn ++ pins) (fun x s₁ => wpAny (model X.prog X.w) X.A (noteFrame x X.env) (fun _ s₂ => FinallyRaised X.prog X.w X.A X.xe X.env (f₀ :: fs) (SP X pins D) x s₂) (FinallyRaised X.prog X.w X.A X.xe X.env (f₀ :: fs) (SP X pins D)) s₁)
    (fun u s' xx => fin_exc hs hf hex ok tk hsu xx) PassesOwn.looking).run [] s σ H { nx := fun σ1 H1 => tf D σ1 H1, rt := fun _ _ => False } (I.toTry _) h) (fun f s1 hsp => ?_) (fun e s1 he => he)
  cases f with
  | next =>
    obtain ⟨σ1, H1, J, q⟩ := hsp
    exact wpAny_execs_nil (fin_next hfin (J.ofTry ok) q)
  | brk =>
    obtain ⟨_, _, _, q⟩ := hsp
    exact False.elim q
  | cont =>
    obtain ⟨_, _, _, q⟩ := hsp
    exact False.elim q
  | ret u =>
    obtain ⟨_, _, _, _, _, q⟩ := hsp
    exact False.elim q
end
theorem XRel.ext {K : KM} {w w' : Wd} {y : Exc} {cls : Value} {d : Option Addr} (x : Ext w w') (s : SR K w) (h : XRel K w y cls d) : XRel K w' y cls d := by
  obtain ⟨h1, dd, v, e, h2, r⟩ := h
  exact ⟨h1, dd, v, e, x.keep _ _ h2 (s.noxd h2), r.ext x s⟩
def fFin (fb fs : FS) : FS := fun d S => match fb d S with
  | .ok (.nx d1) S1 => match fs d1 S1 with
    | .ok (.nx d2) S2 => .ok (.nx d2) S2
    | _ => .bad
  | .ok (.ex y d1) S1 => match fs d1 S1 with
    | .ok (.nx d2) S2 => .ok (.ex y d2) S2
    | _ => .bad
  | _ => .bad
section
variable {X : Cx} {Wx : WX} {body suite : List Stmt} {s0 : Stmt} {pos : Pos} {fb fs : FS}
theorem ss_fin (hs : X.stack = X.env :: X.outer) (hf : X.env.frame = some X.env.locals) (hex : X.ex = []) (tk : Takes X Wx)
    (hb : ∀ (W : WX) (pn : List (Addr × Obj)) (xe : Value → Shared → Prop), Takes (X.tr pn xe) W → PassesOwn (model X.prog X.w) X.A X.env xe → SimB (X.tr pn xe) W body fb)
    (hfin : SimB X.nox W0 (s0 :: suite) fs) (hsu : ∀ (a : Addr) (pn : List (Addr × Obj)), SimB (X.suite a pn) W0 (s0 :: suite) fs) :
    SimS X Wx (.Try body [] [] (s0 :: suite) pos) (fFin fb fs) := by
  refine SimS.mk (ps_finX (tb := fun W => tS X W fb) (tf := tS X W0 fs) (tfs := tS X W0 fs) hs hf hex tk (fun W pn xe h1 h2 => hb W pn xe h1 h2) hfin (fun a pn => hsu a pn)) (fun w d σ D s e h => ?_)
  refine ⟨w, d, rfl, s, e, ?_⟩
  unfold fFin at h
  cases hfb : fb d w.S with
  | bad => rw [hfb] at h; exact h.elim
  | exc y S => rw [hfb] at h; exact h.elim
  | ok fl S1 =>
    rw [hfb] at h
    cases fl with
    | rt u => exact h.elim
    | bk d1 => exact h.elim
    | ct d1 => exact h.elim
    | nx d1 =>
      intro w1 eS st s1 σ1 e1
      subst eS
      refine ⟨w1, d1, rfl, s1, e1, ?_⟩
      have h : Pst (match fs d1 w1.S with
        | .ok (.nx d2) S2 => .ok (.nx d2) S2
        | _ => .bad) (OkS X Wx w D) (fun _ _ => False) := h
      cases hfs : fs d1 w1.S with
      | bad => rw [hfs] at h; exact h.elim
      | exc z S => rw [hfs] at h; exact h.elim
      | ok fl S2 =>
        rw [hfs] at h
        cases fl with
        | nx d2 =>
          have h : OkS X Wx w D (.nx d2) S2 := h
          exact OkS.up h st
        | rt u => exact h.elim
        | bk d2 => exact h.elim
        | ct d2 => exact h.elim
        | ex z d2 => exact h.elim
    | ex y d1 =>
      intro w1 eS st s1 σ1 e1 cls dd xr
      subst eS
      refine ⟨w1, d1, rfl, s1, e1, ?_⟩
      have h : Pst (match fs d1 w1.S with
        | .ok (.nx d2) S2 => .ok (.ex y d2) S2
        | _ => .bad) (OkS X Wx w D) (fun _ _ => False) := h
      cases hfs : fs d1 w1.S with
      | bad => rw [hfs] at h; exact h.elim
      | exc z S => rw [hfs] at h; exact h.elim
      | ok fl S2 =>
        rw [hfs] at h
        cases fl with
        | nx d2 =>
          have h : OkS X Wx w D (.ex y d2) S2 := h
          exact fun w2 eS2 st2 s2 σ2 e2 => h w2 eS2 (st.trans st2) s2 σ2 e2 cls dd (XRel.ext st2.x s1 xr)
        | rt u => exact h.elim
        | bk d2 => exact h.elim
        | ct d2 => exact h.elim
        | ex z d2 => exact h.elim
end
end DL
set_option maxHeartbeats 4000000
namespace DL
open PySem PySem.Spec L2 PyProof.Rows
section
variable {M : Model} {K : PySem.W.Frag}
theorem exm_tup2 {c1 c2 cls : Value} {tp e : Addr} {b : Bool} {h : Heap} (I : K.In h) (LT : PySem.W.Looks M h (typeOf (.ref e)) cls) (hp : h.get? tp = some { cls := .type "tuple", data := .seq [c1, c2].toArray }) (hx : PySem.W.exmAny K cls [c1, c2] = some b) :
    PySem.W.Looks M h (excMatches (.ref e) (.ref tp)) b := by
  obtain ⟨b1, r1, x1, y1, rfl⟩ := PySem.W.exmAny_cons hx
  obtain ⟨b2, r2, x2, y2, rfl⟩ := PySem.W.exmAny_cons y1
  obtain rfl : false = r2 := Option.some.inj y2
  intro A Q E s k q
  obtain ⟨hh, g, d, tk, os⟩ := s
  have T0 : PySem.W.Looks M hh (isInstance (.ref tp) (.type "tuple")) true := (((PySem.W.Looks.ld hp).andThen .now).andThen (PySem.W.Looks.of_pure isSubtype_tuple_tuple)).keeps k
  obtain ⟨p1, q1⟩ := PySem.W.exm_cls (M := M) I x1
  obtain ⟨p2, q2⟩ := PySem.W.exm_cls (M := M) I x2
  replace LT := LT.keeps k
  replace p1 := p1.keeps k; replace q1 := q1.keeps k
  replace p2 := p2.keeps k; replace q2 := q2.keeps k
  have hp' := k _ _ hp
  unfold excMatches
  refine wpAny_bind (T0.at ?_)
  dsimp only
  rw [if_pos rfl]
  first
    | refine wpAny_bind (wpAny_seqItems hp' rfl ?_)
    | refine wpAny_bind (wpAny_bind (wpAny_seqItems hp' rfl (wpAny_pure ?_)))
  dsimp only [Option.getD_some, Option.getD]
  clear hp hx y1 y2 x1 x2
  cases b1 <;> cases b2 <;> ((repeat (first | simp only [List.forIn_cons, List.forIn_nil, Bool.not_true, Bool.false_eq_true, if_false, if_true] | lk)); exact q)
end
section
variable {X : Cx} {x1 x2 n : Str} {c1 c2 : Value} {p1 p2 tp : Pos} {kk : Nat} {i : Nat} {body suite : List Stmt} {s0 : Stmt} {np pos pos' : Pos} {tb : WX → TS} {ts : Addr → TS} {Wout : WX}
theorem ps_tryT2 (hs : X.stack = X.env :: X.outer) (hf : X.env.frame = some X.env.locals) (hex : X.ex = []) (hN : X.N.Nodup) (hi : X.N[i]? = some n) (hln : X.env.kindOf n = some .local) (hn1 : Names X x1 c1) (hn2 : Names X x2 c2) (tk : Takes X Wout)
    (hb : ∀ (W : WX) (pn : List (Addr × Obj)) (xe : Value → Shared → Prop), Takes (X.tr pn xe) W → PassesOwn (model X.prog X.w) X.A X.env xe → PSs (X.tr pn xe) body (tb W))
    (hsu : ∀ (a : Addr) (pn : List (Addr × Obj)), PSs (X.suite a pn) (s0 :: suite) (ts a)) :
    PS X (.Try body [.ExceptHandler (some (.Tuple [.Name x1 p1, .Name x2 p2] kk tp)) (some n) (s0 :: suite) pos'] [] [] pos) (fun D σ H => tb (wTryT X.K [c1, c2] i ts Wout D) D σ H) := by
  refine ⟨fun pins s σ H D I h => ?_⟩
  have ok := I.ok
  have fr1 : X.A.frames = some (X.env :: X.outer) := by rw [ok.frames, hs]
  refine wpAny_Try_except ?_
  refine wpAny_mono ((hb (wTryT X.K [c1, c2] i ts Wout D) (X.pn ++ pins) (fun e t1 => wpAny (model X.prog X.w) X.A (noteFrame e X.env) (fun _ t2 => wpAny (model X.prog X.w) X.A (setFlight e none) (fun _ t3 => wpAny (model X.prog X.w) X.A (handleBy e X.env [.ExceptHandler (some (.Tuple [.Name x1 p1, .Name x2 p2] kk tp)) (some n) (s0 :: suite) pos']) (SP X pins D) X.xe t3) X.xe t2) X.xe t1)
    (fun u s' xx => ?_) PassesOwn.looking).run [] s σ H D (I.toTry _) h) (fun f s1 hsp => ?_) (fun e s1 he => he)
  · obtain ⟨a, G, sI, pins', σ1, H1, cls, d, rfl, J', nb, up, sky, na, os, ag, b, hb1, hyes, hno⟩ := xx
    have J : Inv X pins σ1 H1 sI := J'.ofTry ok
    have sky1 : Sky G (X.env :: X.outer) a (Zc cls d) X.env.locals s'.heap := by rw [← hs]; exact sky
    show wpAny (model X.prog X.w) X.A (noteFrame (.ref a) X.env) _ _ _
    refine Sky.land Zc.steady fr1 hf sky1 fun h3 fl3 up3 => ?_
    have J3 : Inv X pins σ1 H1 { s' with heap := h3 } := J.landed nb fl3.1 (up.trans up3) os ag
    obtain ⟨oe, vs, he, hz, hd⟩ := fl3.there
    have nfr : a ∉ frs (X.env :: X.outer) := fun hm => by
      obtain ⟨_, o', e', hnf⟩ := fl3.2.2.1.mem hm
      rw [he] at e'; cases e'
      exact hnf _ hd
    have nL : a ≠ X.env.locals := fun z => nfr (List.mem_filterMap.mpr ⟨X.env, List.mem_cons_self, by rw [hf, z]⟩)
    have noI : sI.heap.get? a = none := by
      cases q : sI.heap.get? a with
      | none => rfl
      | some o =>
        have z := nb a o q (by rw [hs]; exact nfr)
        rw [fl3.2.1] at z
        cases z
    have no0 : X.s_0.heap.get? a = none := by
      cases q : X.s_0.heap.get? a with
      | none => rfl
      | some o =>
        obtain ⟨o', z⟩ := J.base.there a o q (by rw [hex]; simp)
        rw [noI] at z
        cases z
    have npin : ∀ q ∈ X.pn ++ pins, q.1 ≠ a := fun q hq z => by
      have y := (J.pin q hq).1
      rw [z, noI] at y
      cases y
    have S3 := suite0 J3 a
    refine wpAny_handleBy_cons (codeAny_handlers_test ?_) (by intro q; cases q)
    have LT : PySem.W.Looks (model X.prog X.w) h3 (typeOf (.ref a)) cls := fun A Q E t k q => wpAny_typeOf_ref (k _ _ he) (by rw [hz.1]; exact q)
    have test : ∀ {x : Str} {c : Value} {np : Pos} {Q : Value → Shared → Prop} {E : Value → Shared → Prop}, Names X x c → Q c { s' with heap := h3 } → wpAny (model X.prog X.w) (X.A.mark (some (.ref a))) (eval (.Name x np) X.env) Q E { s' with heap := h3 } := fun {x c np Q E} hc q => by
      obtain ⟨hg, hdbg, hm | ⟨hm, hv, hnn⟩⟩ := hc
      · exact ld_glob (X := X.suite a (X.pn ++ pins)) S3 hg hm q hdbg
      · exact ld_blt (X := X.suite a (X.pn ++ pins)) S3 hg hm hv q hnn hdbg
    have kp : ∀ q o, h3.get? q = some o → (h3.push { cls := .type "tuple", data := .seq [c1, c2].toArray }).get? q = some o := fun _ _ z => Heap.get?_push_of_some _ z
    have LM := exm_tup2 (M := model X.prog X.w) (J3.kIn.keeps kp) (LT.keeps kp) (Heap.get?_push_size h3 rfl) hb1
    refine wpAny_Tuple ?_
    refine wpAny_items_cons (test hn1 ?_)
    refine wpAny_items_cons (test hn2 ?_)
    refine wpAny_items_nil ⟨by size_fits, ?_⟩
    refine LM.here ?_
    have up3 := up3.trans (Heap.UpToSlots.of_keeps kp)
    have fl3 := flyZ_keeps fl3 kp
    dsimp only
    generalize (h3.push { cls := .type "tuple", data := .seq [c1, c2].toArray }) = h3' at up3 fl3 ⊢
    cases b with
    | true =>
      obtain ⟨C, dd, rfl, rfl, ht⟩ := hyes rfl
      refine codeAny_handlers_suite_as (HandSPX.lands_againZ fl3 fun h4 fl4 up4 => ?_)
      have J4 : Inv X pins σ1 H1 { s' with heap := h4 } := J.landed nb fl4.1 ((up.trans up3).trans up4) os ag
      obtain ⟨oe4, vs4, he4, hz4, hd4⟩ := fl4.there
      have S4 := suite0 (adopt J4 na no0 he4 hd4 hz4 nL npin) a
      refine store_ok (X := X.suite a (X.pn ++ pins)) (v := .ref a) S4 hN hi (.inl hln) rfl (fun s5 S5 => ?_) (.inr hln)
      refine wpAny_mono ((hsu a (X.pn ++ pins)).run [] s5 _ _ _ S5 (ht a na)) (fun f s6 hsp => ?_) (fun _ _ z => False.elim z)
      have bye : ∀ {σ6 : L2.St} {H6 : Hp} {Q : Shared → Prop}, Inv (X.suite a (X.pn ++ pins)) [] σ6 H6 s6 → (∀ s7, Inv X pins (σ6.set i none) H6 s7 → Q s7) → wpAny (model X.prog X.w) X.A (do bindName X.env n .none; unbindBehindTheSuite X.env n pos') (fun _ s7 => Q s7) X.xe s6 := fun {σ6 H6 Q} S6 hq => gone_ok (unsuite0 S6 ok) hN hi hln hq
      cases f with
      | next => obtain ⟨σ6, H6, S6, q6⟩ := hsp; exact bye S6 fun s7 J7 => ⟨_, _, J7, q6⟩
      | brk => obtain ⟨σ6, H6, S6, q6⟩ := hsp; exact bye S6 fun s7 J7 => ⟨_, _, J7, q6⟩
      | cont => obtain ⟨σ6, H6, S6, q6⟩ := hsp; exact bye S6 fun s7 J7 => ⟨_, _, J7, q6⟩
      | ret u => obtain ⟨v6, σ6, H6, S6, r6, q6⟩ := hsp; exact bye S6 fun s7 J7 => ⟨_, _, _, J7, r6, q6⟩
    | false =>
      show wpAny _ X.A (handleBy (.ref a) X.env []) _ _ _
      refine wpAny_handleBy_nil ?_
      obtain ⟨k1, k2, k3, oe5, vs5, T5, oT5, ts5, he5, hz5, hd5, h15, hr5⟩ := id fl3
      unfold PySem.passOn
      refine wpAny_bind (wpAny_field he5 hd5 h15 ?_)
      rw [if_neg (show ¬ ((Value.ref T5 == Value.none) = true) from by simp)]
      have last : wpAny (model X.prog X.w) X.A (setFlight (.ref a) X.env.frame) (fun _ t4 => wpAny (model X.prog X.w) X.A (throw (.ref a) : Sem Flow) (SP X pins D) X.xe t4) X.xe { s' with heap := h3' } := by
        rw [hf]
        refine HandSPX.setFlight_upZ fl3 fun h4 hh4 up4 => wpAny_throw (tk _ _ ⟨a, G, sI, pins, σ1, H1, cls, d, rfl, J, nb, (up.trans up3).trans up4, .inr (.inr (by rw [hs]; exact hh4)), na, os, ag, hno rfl⟩)
      first
        | exact wpAny_bind (wpAny_pure (wpAny_bind last))
        | exact wpAny_bind last
  · cases f with
    | next => obtain ⟨σ', H', J', q⟩ := hsp; exact wpAny_execs_nil ⟨σ', H', J'.ofTry ok, q⟩
    | brk => obtain ⟨σ', H', J', q⟩ := hsp; exact ⟨σ', H', J'.ofTry ok, q⟩
    | cont => obtain ⟨σ', H', J', q⟩ := hsp; exact ⟨σ', H', J'.ofTry ok, q⟩
    | ret u => obtain ⟨v, σ', H', J', r, q⟩ := hsp; exact ⟨v, σ', H', J'.ofTry ok, r, q⟩
end
section
variable {X : Cx} {Wx : WX} {x1 x2 n : Str} {c1 c2 : Value} {p1 p2 tp : Pos} {kk : Nat} {i : Nat} {body suite : List Stmt} {s0 : Stmt} {np pos pos' : Pos} {fb fs : FS} {m : Str → Option Bool}
theorem ss_tryT2 (hs : X.stack = X.env :: X.outer) (hf : X.env.frame = some X.env.locals) (hex : X.ex = []) (hN : X.N.Nodup) (hi : X.N[i]? = some n) (hln : X.env.kindOf n = some .local) (hn1 : Names X x1 c1) (hn2 : Names X x2 c2) (tk : Takes X Wx)
    (hm : ∀ z b, m z = some b → ∀ cls, X.mg z = some cls → PySem.W.exmAny X.K cls [c1, c2] = some b ∧ ∃ C, cls = .ref C)
    (hb : ∀ (W : WX) (pn : List (Addr × Obj)) (xe : Value → Shared → Prop), Takes (X.tr pn xe) W → PassesOwn (model X.prog X.w) X.A X.env xe → SimB (X.tr pn xe) W body fb)
    (hsu : ∀ (a : Addr) (pn : List (Addr × Obj)), SimB (X.suite a pn) W0 (s0 :: suite) fs) :
    SimS X Wx (.Try body [.ExceptHandler (some (.Tuple [.Name x1 p1, .Name x2 p2] kk tp)) (some n) (s0 :: suite) pos'] [] [] pos) (fTry m i fb fs) := by
  refine SimS.mk (ps_tryT2 (tb := fun W => tS X W fb) (ts := fun _ => tS X W0 fs) hs hf hex hN hi hln hn1 hn2 tk (fun W pn xe h1 h2 => hb W pn xe h1 h2) (fun a pn => hsu a pn)) (fun w d σ D s e h => ?_)
  refine ⟨w, d, rfl, s, e, ?_⟩
  unfold fTry at h
  cases hfb : fb d w.S with
  | bad => rw [hfb] at h; exact h.elim
  | exc y S => rw [hfb] at h; exact h.elim
  | ok fl S1 =>
    rw [hfb] at h
    cases fl with
    | nx d1 => exact h
    | rt u => exact h
    | bk d1 => exact h
    | ct d1 => exact h
    | ex y d1 =>
      intro w1 eS st s1 σ1 e1 cls dd xr
      obtain ⟨hcls, dd', v, rfl, hx, rv⟩ := id xr
      have h : Pst (match m y.cls with
        | some true => match fs (d1.set i (some (.exc y.cls y.fld y.arg))) S1 with
          | .ok (.nx d2) S2 => .ok (.nx (d2.set i none)) S2
          | .ok (.rt u) S2 => .ok (.rt u) S2
          | .ok (.bk d2) S2 => .ok (.bk (d2.set i none)) S2
          | .ok (.ct d2) S2 => .ok (.ct (d2.set i none)) S2
          | _ => .bad
        | some false => .ok (.ex y d1) S1
        | none => .bad) (OkS X Wx w D) (fun _ _ => False) := h
      cases hmy : m y.cls with
      | none => rw [hmy] at h; exact h.elim
      | some b =>
        rw [hmy] at h
        obtain ⟨hk, C, rfl⟩ := hm _ _ hmy _ hcls
        refine ⟨b, hk, fun hbt => ?_, fun hbf => ?_⟩
        · subst hbt
          refine ⟨C, dd', rfl, rfl, fun a na => ?_⟩
          subst eS
          have st1 := Stp.new s1 (o := exv a C dd') na
          have s2 : SR (KMof X) (w1.new a (exv a C dd')) := s1.new na
          have hne : dd' ≠ a := fun z => by rw [z, na] at hx; cases hx
          have rx : VR (KMof X) (w1.new a (exv a C dd')) (.exc y.cls y.fld y.arg) (.ref a) := .exc (d := dd') (C := C) (v := v) upd_same (by show upd w1.H a _ dd' = _; rw [upd_ne hne]; exact hx) hcls (rv.ext st1.x s1)
          refine ⟨w1.new a (exv a C dd'), d1.set i (some (.exc y.cls y.fld y.arg)), rfl, s2, (e1.ext st1.x s1).set i rx, ?_⟩
          show Pst (fs (d1.set i (some (.exc y.cls y.fld y.arg))) w1.S) _ _
          cases hfs : fs (d1.set i (some (.exc y.cls y.fld y.arg))) w1.S with
          | bad => rw [hfs] at h; exact h.elim
          | exc z S => rw [hfs] at h; exact h.elim
          | ok fl S2 =>
            rw [hfs] at h
            intro w3 eS3 st3 s3
            have st4 := (st.trans st1).trans st3
            cases fl with
            | nx d2 => exact fun σ2 e2 => h w3 eS3 st4 s3 (σ2.set i none) (e2.forget i none)
            | rt u => exact fun v2 r2 => h w3 eS3 st4 s3 v2 r2
            | bk d2 => exact fun σ2 e2 => h w3 eS3 st4 s3 (σ2.set i none) (e2.forget i none)
            | ct d2 => exact fun σ2 e2 => h w3 eS3 st4 s3 (σ2.set i none) (e2.forget i none)
            | ex z d2 => exact h.elim
        · subst hbf
          exact h w1 eS st s1 σ1 e1 (.ref C) (some dd') xr
end
end DL
set_option maxHeartbeats 1000000
namespace DL
open PySem PySem.Spec PyProof.Rows L2
section
variable {X : Cx} {Wx : WX}
def dclrM (u : U) (us : List U) (S : Sto) : R U := match u, us with
  | .loc n, [] => match S[n]? with
    | some (.dic _ _) => .ok .non (S.set n (.dic [] []))
    | _ => .bad
  | _, _ => .bad
theorem ms_dclr : MtSim X "dict.clear" dclrM := by
  refine ⟨_, mtd_clear, fun u us S => by unfold dclrM; split <;> first | trivial | (split <;> trivial), fun w u us v vs Q s r rs h => ?_⟩
  unfold dclrM at h
  split at h
  · rename_i n
    split at h
    · rename_i ks xs hS
      cases r with
      | @loc _ a hm =>
        cases rs
        obtain ⟨vs, q, l, r1⟩ := s.obj n a _ hm hS
        have st1 : Stp w (w.put n a (.dK []) (.dic [] [])) := Stp.put s hm hS (by intro z; cases z)
        exact ⟨a, _, rfl, rfl, q, h (w.put n a _ _) .non rfl st1 (s.put hm hS (by intro z; cases z) ⟨[], upd_same, rfl, .nil⟩) .non⟩
    · exact h.elim
  · exact h.elim
def dropU : List Key → List U → Key → List Key × List U
  | k :: ks, u :: us, j => if k = j then dropU ks us j else (k :: (dropU ks us j).1, u :: (dropU ks us j).2)
  | _, _, _ => ([], [])
def dpopM (u : U) (us : List U) (S : Sto) : R U := match u, us with
  | .loc n, [k] => match S[n]?, keyU k with
    | some (.dic ks us), some j => match valU ks us j with
      | some x => .ok x (S.set n (.dic (dropU ks us j).1 (dropU ks us j).2))
      | none => .bad
    | _, _ => .bad
  | _, _ => .bad
theorem mt_dpop : MtR X "dict.pop" (fun x xs H Q => ∃ (a : Addr) (kvs : List (Key × V)) (k : Key) (v : V), x = .ref a ∧ xs = [kV k] ∧ H a = some (.dK kvs) ∧ valV kvs k = some v ∧ Q v (upd H a (.dK (dropK kvs k)))) := by
  intro pins s σ H x xs v us Q I rx rs h
  obtain ⟨a, kvs, k, v', rfl, rfl, hd, hv, q⟩ := h
  cases rx
  obtain ⟨u, rfl, ru⟩ := vals1 rs
  exact d_pop (more := []) I hd ru hv (.inl rfl) fun w' s' I' r' => ⟨v', _, I', r', q⟩
theorem dropU_rel {w : Wd} {j : Key} : ∀ {ks : List Key} {us : List U} {xs : List V}, ks.length = us.length → VRs (KMof X) w us xs → ∃ ys : List V, dropK (ks.zip xs) j = (dropU ks us j).1.zip ys ∧ (dropU ks us j).1.length = (dropU ks us j).2.length ∧ VRs (KMof X) w (dropU ks us j).2 ys
  | [], [], _, _, .nil => ⟨[], rfl, rfl, .nil⟩
  | [], _ :: _, _, h, _ => by cases h
  | _ :: _, [], _, h, _ => by cases h
  | k :: ks, u :: us, x :: xs, h, .cons r rs => by
    obtain ⟨ys, e, l, r2⟩ := dropU_rel (j := j) (Nat.succ.inj h) rs
    unfold dropU
    by_cases q : k = j
    · rw [if_pos q]
      refine ⟨ys, ?_, l, r2⟩
      rw [← e]
      unfold dropK
      rw [List.zip_cons_cons, List.filter_cons, if_neg (by simp [q])]
    · rw [if_neg q]
      refine ⟨x :: ys, ?_, by show _ + 1 = _ + 1; rw [l], .cons r r2⟩
      show dropK ((k :: ks).zip (x :: xs)) j = (k, x) :: (dropU ks us j).1.zip ys
      rw [← e]
      unfold dropK
      rw [List.zip_cons_cons, List.filter_cons, if_pos (by simp [q])]
theorem valU_dp {w : Wd} {j : Key} {z : U} : ∀ {ks : List Key} {us : List U} {xs : List V}, VRs (KMof X) w us xs → valU ks us j = some z → ∃ v, valV (ks.zip xs) j = some v ∧ VR (KMof X) w z v
  | [], us, _, _, h => by cases us <;> cases h
  | _ :: _, [], _, .nil, h => by cases h
  | k :: ks, u :: us, x :: xs, .cons r rs, h => by
    unfold valU at h
    by_cases q : k = j
    · rw [if_pos q] at h
      cases h
      exact ⟨x, valV_pos (p := (k, x)) q, r⟩
    · rw [if_neg q] at h
      obtain ⟨v, e, r2⟩ := valU_dp rs h
      exact ⟨v, by rw [List.zip_cons_cons, valV_neg (p := (k, x)) q]; exact e, r2⟩
theorem ms_dpop : MtSim X "dict.pop" dpopM := by
  refine ⟨_, mt_dpop, fun u us S => by unfold dpopM; split <;> first | trivial | (split <;> first | trivial | (split <;> trivial)), fun w u us v vs Q s r rs h => ?_⟩
  unfold dpopM at h
  split at h
  · rename_i n k
    split at h
    · rename_i ks xs j hS hk
      split at h
      · rename_i x hv
        cases r with
        | @loc _ a hm =>
          cases rs with
          | cons r1 rs =>
            cases rs
            have e := keyU_ok r1 hk
            subst e
            obtain ⟨vs, q, l, r2⟩ := s.obj n a _ hm hS
            obtain ⟨z, hz, rz⟩ := valU_dp r2 hv
            obtain ⟨ys, e2, l2, r3⟩ := dropU_rel (j := j) l r2
            have st1 : Stp w (w.put n a (.dK (dropK (ks.zip vs) j)) (.dic (dropU ks xs j).1 (dropU ks xs j).2)) := Stp.put s hm hS (by intro z; cases z)
            exact ⟨a, _, j, z, rfl, rfl, q, hz, h (w.put n a _ _) z rfl st1 (s.put hm hS (by intro z; cases z) ⟨ys, by show upd w.H a _ a = _; rw [upd_same, e2], l2, r3.ext st1.x s⟩) (rz.ext st1.x s)⟩
      · exact h.elim
    · exact h.elim
  · exact h.elim
end
end DL
set_option maxHeartbeats 4000000
namespace DL
open PySem PySem.Spec PyProof.Rows L2
section
variable {X : Cx} {Wx : WX}
theorem dcomp_core2 {wi : TI} {fi : FA} {is vs : List Nat} {g : U → En → Option En} {ft : FT} {fk fv : FE} {tv : TE}
    (w : Wd) (d : En) (σ : L2.St) (Q : VK) (hi : ∀ (Q : It → Hp → Prop), Pst (fi d w.S) (OkI X w Q) (XPost X Wx σ w) → wi σ w.H Q) (hv : ∀ i ∈ is, i ∈ vs)
    (htv : ∀ (w' : Wd) (d1 : En) (σ2 : L2.St) (Q : VK), Ext w w' → SR (KMof X) w' → ER (KMof X) w' d1 σ2 → Pst (fv d1 w'.S) (OkE X w' Q) (fun _ _ => False) → tv σ2 w'.H Q)
    (s : SR (KMof X) w) (e : ER (KMof X) w d σ) (h : Pst (dComp fi g ft fk fv vs d w.S) (OkD X w Q) (XPost X Wx σ w)) : tDc wi (tG X is g) (tT X W0 ft) (tE X W0 fk) tv vs σ w.H Q := by
  refine hi _ ((Pst.of_bind h).mono (fun us S1 h1 w1 J eS st s1 it => ?_) fun _ _ q => q)
  subst eS
  intro D hD
  have nD : D ∉ w1.r := fun z => s1.tracked (.inl z) hD
  have noE : ∀ (us : List U) (acc : List Key × List U) (S : Sto), Pst (compD g ft fk fv (wipeE d vs) us acc S) (OkD X w Q) (XPost X Wx σ w) → Pst (compD g ft fk fv (wipeE d vs) us acc S) (OkD X w Q) (fun _ _ => False) := fun us => by
    induction us with
    | nil => intro acc S h; exact h
    | cons u us ih =>
      intro acc S h
      unfold compD at h ⊢
      split at h
      · exact h.elim
      · split at h
        · split at h
          · split at h
            · split at h
              · obtain ⟨hl, h⟩ := guard_post h
                rw [hl]
                exact ih _ _ h
              · exact h.elim
            · exact h.elim
          · exact h.elim
        · exact ih _ _ h
        · exact h.elim
  refine ⟨fun i m H => ∃ (w' : Wd) (acc : List Key × List U) (xs : List V), w'.H = H ∧ Ext w1 w' ∧ (∀ a ∈ w1.r, w'.H a = w1.H a) ∧ SR (KMof X) w' ∧ w'.r = D :: w1.r ∧ w'.H D = some (.dK (acc.1.zip xs)) ∧ acc.1.length = acc.2.length ∧ VRs (KMof X) w' acc.2 xs ∧ m = us.length - i ∧ i ≤ us.length ∧
      Pst (compD g ft fk fv (wipeE d vs) (us.drop i) acc w'.S) (OkD X w Q) (fun _ _ => False),
    ⟨us.length, w1.hold D (.dK []), ([], []), [], rfl, Ext.hold s1 hD, fun a ha => ?_, s1.hold hD (.inr ⟨_, rfl⟩), rfl, upd_same, rfl, .nil, by simp, Nat.zero_le _, noE us ([], []) w1.S h1⟩, ?_⟩
  · show upd w1.H D _ a = w1.H a
    rw [upd_ne fun z => nD (by rw [← z]; exact ha)]
  rintro i m H ⟨w', acc, xs, rfl, x1, k1, s', er, eD, el, rs, rfl, hil, q⟩
  have hDr : D ∈ w'.r := by rw [er]; exact List.mem_cons_self
  obtain ⟨it1, it2⟩ := it w' i x1 s'
  by_cases hlt : i < us.length
  · rw [drop_at hlt] at q
    obtain ⟨go, yl⟩ := it1 us[i] (List.getElem?_eq_getElem hlt)
    refine .inr ⟨go, fun H2 => ∃ (w2 : Wd) (acc2 : List Key × List U) (xs2 : List V), w2.H = H2 ∧ Ext w1 w2 ∧ (∀ a ∈ w1.r, w2.H a = w1.H a) ∧ SR (KMof X) w2 ∧ w2.r = D :: w1.r ∧ w2.H D = some (.dK (acc2.1.zip xs2)) ∧ acc2.1.length = acc2.2.length ∧ VRs (KMof X) w2 acc2.2 xs2 ∧ Pst (compD g ft fk fv (wipeE d vs) (us.drop (i + 1)) acc2 w2.S) (OkD X w Q) (fun _ _ => False),
      fun H2 ⟨w2, acc2, xs2, e1, e2, e3, e4, e5, e6, e6', e7, e8⟩ => ⟨us.length - (i + 1), by omega, w2, acc2, xs2, e1, e2, e3, e4, e5, e6, e6', e7, rfl, hlt, e8⟩, fun x H' y => ?_⟩
    obtain ⟨w2, rfl, eS2, st2, s2, rx⟩ := yl x H' y
    rw [← eS2] at q
    have sub : ∀ a ∈ w1.r, a ∈ w'.r := fun a ha => by rw [er]; exact List.mem_cons_of_mem _ ha
    have later : ∀ {w3 : Wd}, Stp w' w3 → SR (KMof X) w3 → Ext w1 w3 ∧ (∀ a ∈ w1.r, w3.H a = w1.H a) ∧ w3.r = D :: w1.r ∧ w3.H D = some (.dK (acc.1.zip xs)) ∧ VRs (KMof X) w3 acc.2 xs := fun {w3} st3 s3 =>
      ⟨x1.trans st3.x, fun a ha => (st3.k a (sub a ha)).trans (k1 a ha), st3.r.trans er, (st3.k D hDr).trans eD, rs.ext st3.x s'⟩
    unfold compD at q
    split at q
    · exact q.elim
    · rename_i d1 hd1
      have e2 : ER (KMof X) w2 (wipeE d vs) (L2.wipe σ vs) := (((e.ext st.x s).ext x1 s1).ext st2.x s').wipe vs
      refine ⟨w2, us[i], wipeE d vs, d1, rfl, s2, e2, rx, hd1, fun σ2 eσ kσ => ⟨?_, ?_⟩⟩
      · have hk := kσ vs hv
        have ww : ∀ σ : L2.St, L2.wipe (L2.wipe σ vs) vs = L2.wipe σ vs := fun σ => by
          refine List.ext_getElem? fun j => ?_
          rw [wipe_get, wipe_get, wipe_length]
          split <;> rfl
        rw [hk, ww]
      · refine ⟨w2, d1, rfl, s2, eσ, ?_⟩
        split at q
        · rename_i S3 ht
          rw [ht]
          intro w3 eS3 st3 s3
          rw [← eS3] at q
          split at q
          · rename_i y4 S4 hy
            refine ⟨w3, d1, rfl, s3, eσ.ext st3.x s2, ?_⟩
            rw [hy]
            intro w4 v4 eS4 st4 s4 r4
            rw [← eS4] at q
            split at q
            · rename_i y5 S5 hy5
              refine htv w4 d1 _ _ ((st.x.trans x1).trans ((st2.trans st3).trans st4).x) s4 ((eσ.ext st3.x s2).ext st4.x s3) ?_
              rw [hy5]
              intro w5 v5 eS5 st5 s5 r5
              rw [← eS5] at q
              split at q
              · rename_i k hk
                obtain ⟨hl, q⟩ := guard_post q
                have st35 := ((st2.trans st3).trans st4).trans st5
                obtain ⟨l1, l2, l3, l4, l5⟩ := later st35 s5
                have hD5 : D ∈ w5.r := by rw [l3]; exact List.mem_cons_self
                obtain ⟨xs', ep, rs', ln'⟩ := put_ok (k := k) r5 el l5
                have mo : MutO (.dK ((putU acc.1 acc.2 k y5).1.zip xs')) := .inr ⟨_, rfl⟩
                have xg := Ext.growO (w := w5) (o := .dK ((putU acc.1 acc.2 k y5).1.zip xs')) hD5
                refine ⟨acc.1.zip xs, k, keyU_ok r4 hk, l4, by rw [zip_len el rs]; exact of_decide_eq_true hl, w5.growO D (.dK ((putU acc.1 acc.2 k y5).1.zip xs')), putU acc.1 acc.2 k y5, xs', ?_, l1.trans xg, fun a ha => ?_, s5.growO hD5 mo, l3, upd_same, ln', rs'.ext xg s5, q⟩
                · rw [ep]
                  rfl
                · show upd w5.H D _ a = w1.H a
                  rw [upd_ne fun z => nD (by rw [← z]; exact ha)]
                  exact l2 a ha
              · exact q.elim
            · exact q.elim
          · exact q.elim
        · rename_i S3 ht
          rw [ht]
          intro w3 eS3 st3 s3
          rw [← eS3] at q
          obtain ⟨l1, l2, l3, l4, l5⟩ := later (st2.trans st3) s3
          exact ⟨w3, acc, xs, rfl, l1, l2, s3, l3, l4, el, l5, q⟩
        · exact q.elim
  · have e0 : i = us.length := by omega
    subst e0
    rw [List.drop_length] at q
    refine .inl ⟨it2 (Nat.le_refl _), ?_⟩
    have hq := q (w'.cut D) D xs rfl ⟨(st.x.trans (x1.cut hD)), ?_, fun a ha => ?_⟩ (s'.cut hDr) el (rs.cut s' (.inl hDr)) cut_D
    · rw [cut_back eD] at hq
      exact hq
    · show w'.r.filter _ = w.r
      rw [er, let_go_r nD]
      exact st.r
    · have ha1 : a ∈ w1.r := by rw [st.r]; exact ha
      rw [cut_at fun z => nD (by rw [← z]; exact ha1), k1 a ha1]
      exact st.k a ha
end
def unlD (n : Nat) (b : Ob) : R (List Key × List U) → R (List Key × List U)
  | .ok p S => .ok p (S.set n b)
  | _ => .bad
def fReadAt (n : Nat) (ks : List Key) (us : List U) (fi : FE) (ik : Nat) : FE := fun d S => (fi d S).bind fun u S1 => match u, d[ik]? with
  | .loc m, some (some kv) => if m = n then (match keyU kv with
    | some k => oU (valU ks us k) S1
    | none => .bad) else .bad
  | _, _ => .bad
def dCompK (fi : FE) (g : U → En → Option En) (ft : FT) (fk : FE) (ik : Nat) (vs : List Nat) : FD := fun d S => match fi d S with
  | .ok (.loc n) _ => match S[n]? with
    | some (.dic ks us) => unlD n (.dic ks us) (dComp (aKeysAt n ks fi) g ft fk (fReadAt n ks us fi ik) vs d (S.set n .dead))
    | _ => .bad
  | _ => .bad
section
variable {X : Cx} {Wx : WX} {pos p2 p3 : Pos} {tg kx iter iter2 : Expr} {kn : Str} {ifs : List Expr} {scope : Scope} {own : List (Str × Nat)} {fi : FE} {is vs : List Nat} {g : U → En → Option En} {ft : FT} {fk : FE} {ik : Nat}
theorem sd_compR (hu : X.A.units + 64 < cLine) (hc : X.calm = true) (hN : X.N.Nodup) (hi : SimE X Wx iter fi) (ok : BlkOk X.N X.env.scope scope own)
    (hg : ∀ (s : Shared) (H : Hp) (C : Addr) (cl : List (Str × Addr)) (fp : List Addr), SimG (X.blk s H scope (compEnvC scope cl C X.env) fp) tg is g)
    (ht : ∀ (s : Shared) (H : Hp) (C : Addr) (cl : List (Str × Addr)) (fp : List Addr), SimTs (X.blk s H scope (compEnvC scope cl C X.env) fp) W0 ifs ft)
    (hk : ∀ (s : Shared) (H : Hp) (C : Addr) (cl : List (Str × Addr)) (fp : List Addr), SimE (X.blk s H scope (compEnvC scope cl C X.env) fp) W0 kx fk)
    (hi2 : ∀ (s : Shared) (H : Hp) (C : Addr) (cl : List (Str × Addr)) (fp : List Addr), SimE (X.blk s H scope (compEnvC scope cl C X.env) fp) W0 iter2 fi)
    (hk2 : ∀ (s : Shared) (H : Hp) (C : Addr) (cl : List (Str × Addr)) (fp : List Addr), SimE (X.blk s H scope (compEnvC scope cl C X.env) fp) W0 (.Name kn p3) (fVar ik))
    (hvs : own.map (·.2) = vs := by rfl) (hv : ∀ i ∈ is, i ∈ vs := by decide) (hs : ∀ x, foldedSetIterable iter X.env x = pure x := by intro _; rfl) :
    SimD X Wx (.DictComp kx (.Subscript iter2 (.Name kn p3) p2) [⟨tg, iter, ifs, 0⟩] scope pos) (dCompK fi g ft fk ik vs) := by
  subst hvs
  obtain ⟨ti, pi, hi⟩ := hi.out
  refine SimD.mk (pe_lock (pe_dc (g := tG X is g) (tt := tT X W0 ft) (tk := tE X W0 fk) (tv := tOp (fun x y H Q => ∃ a v, x = .ref a ∧ DGet H a y (some v) ∧ Q v H) (tE X W0 fi) (tE X W0 (fVar ik))) hc hN (pi_keys pi) ok hg ht hk (fun s H C cl fp => pe_ix (ix_dict (by show X.A.units + 1 < cLine; omega)) (hi2 s H C cl fp) (hk2 s H C cl fp) (by intro _ _; rfl)) hs)) (fun w d σ Q s e h => ?_)
  unfold dCompK at h
  split at h
  · rename_i n Sx hx
    split at h
    · rename_i ks us hS
      have hnl : n < w.m.length := by rw [s.len]; exact (List.getElem?_eq_some_iff.mp hS).1
      obtain ⟨a, hm⟩ : ∃ a, w.m[n]? = some a := ⟨_, List.getElem?_eq_getElem hnl⟩
      have ⟨xs, ha, hl, rs⟩ := s.obj n a _ hm hS
      refine ⟨a, .dK (ks.zip xs), ha, trivial, fun od => ?_⟩
      have s1 : SR (KMof X) (w.put n a (.frz od (.dK (ks.zip xs))) .dead) := s.put hm hS (by intro z; cases z) trivial
      have st1 : Stp w (w.put n a (.frz od (.dK (ks.zip xs))) .dead) := Stp.put s hm hS (by intro z; cases z)
      have e1 := e.ext st1.x s
      have rs1 := rs.ext st1.x s
      have hr : a ∉ w.r := fun z => s.rd a z ⟨n, _, hm, hS, by intro z; cases z⟩
      have nl1 : ¬ (w.put n a (.frz od (.dK (ks.zip xs))) .dead).live a := fun q => by
        rcases q with q | ⟨k, b, h1, h2, h3⟩
        · exact hr q
        · have h1 : w.m[k]? = some a := h1
          rcases get_set (show (w.S.set n .dead)[k]? = some b from h2) with ⟨_, y⟩ | ⟨z, y⟩
          · exact h3 y
          · exact z (s.inj k n a b _ h1 hm y hS h3 (by intro z; cases z))
      have lk : ∀ {w2 : Wd}, Stp (w.put n a (.frz od (.dK (ks.zip xs))) .dead) w2 → Lk w2 n a od (ks.zip xs) := fun {w2} st => by
        refine ⟨?_, st.x.keep a _ upd_same nl1, fun q => ?_⟩
        · obtain ⟨ml, em⟩ := st.x.m
          have em : w2.m = w.m ++ ml := em
          rw [em, List.getElem?_append_left hnl]
          exact hm
        · rcases st.x.live a q with z | z
          · exact nl1 z
          · have z : upd w.H a _ a = none := z
            rw [upd_same] at z
            cases z
      have back : ∀ {w2 : Wd}, Stp (w.put n a (.frz od (.dK (ks.zip xs))) .dead) w2 → SR (KMof X) w2 → Stp w (w2.put n a (.dK (ks.zip xs)) (.dic ks us)) ∧ SR (KMof X) (w2.put n a (.dK (ks.zip xs)) (.dic ks us)) := fun {w2} st s2 => by
        refine ⟨Stp.unl s hm hS (by intro z; cases z) st, s2.unl (lk st) (by rw [st.r]; exact hr) ⟨xs, upd_same, hl, (rs1.ext st.x s1).unl (lk st)⟩⟩
      refine dcomp_core2 (Wx := Wx) (fi := aKeysAt n ks fi) (fv := fReadAt n ks us fi ik) (w.put n a (.frz od (.dK (ks.zip xs))) .dead) d σ _ (fun Q' h' => ?_) hv (fun w' d1 σ2 Q' x' s' e' h' => ?_) s1 e1 ?_
      · refine hi _ d σ _ s1 e1 ((Pst.of_bind h').mono (fun u S1 h1 w2 v eS st2 s2 r => ?_) fun _ _ q => q)
        · subst eS
          split at h1
          · rename_i m
            split at h1
            · rename_i emn
              subst emn
              have l2 := lk st2
              cases r with
              | @loc _ a' hm' =>
                cases l2.m.symm.trans hm'
                refine ⟨a, od, rfl, .inl ⟨ks.zip xs, l2.h, h1 w2 _ rfl st2 s2 (ItSim.same fun w' i x' s' => ?_)⟩⟩
                have hk : w'.H a = some (.frz od (.dK (ks.zip xs))) := x'.keep a _ l2.h l2.nl
                have lz : (ks.zip xs).length = ks.length := by have := rs.length; rw [List.length_zip]; omega
                refine ⟨fun u hu => ?_, fun hi' => ⟨hk, by rw [List.length_map] at hi'; omega⟩⟩
                have hil := (List.getElem?_eq_some_iff.mp hu).1
                rw [List.length_map] at hil
                refine ⟨⟨hk, by omega⟩, fun z H' q => ⟨q.1, ?_⟩⟩
                obtain ⟨k, v, hkv, rfl⟩ := q.2
                have hk1 := (List.getElem?_zip_eq_some.mp hkv).1
                rw [List.getElem?_map, hk1] at hu
                cases hu
                exact kU_vr k
            · exact h1.elim
          · exact h1.elim
      · refine ⟨w', d1, rfl, s', e', ?_⟩
        unfold fReadAt at h'
        refine (Pst.of_bind h').mono (fun u S1 h1 w2 v eS st2 s2 r => ?_) fun _ _ q => q.elim
        subst eS
        split at h1
        · rename_i m kv hkv
          split at h1
          · rename_i emn
            subst emn
            split at h1
            · rename_i k hkk
              unfold oU at h1
              split at h1
              · rename_i z hz
                have hm0 : w'.m[m]? = some a := by
                  obtain ⟨ml, em⟩ := x'.m
                  have em : w'.m = w.m ++ ml := em
                  rw [em, List.getElem?_append_left hnl]
                  exact hm
                have hH0 : w'.H a = some (.frz od (.dK (ks.zip xs))) := x'.keep a _ upd_same nl1
                have hm2 : w2.m[m]? = some a := by
                  obtain ⟨ml, em⟩ := st2.x.m
                  have hml : m < w'.m.length := (List.getElem?_eq_some_iff.mp hm0).1
                  rw [em, List.getElem?_append_left hml]
                  exact hm0
                have nl' : ¬ w'.live a := fun q => by
                  rcases x'.live a q with z | z
                  · exact nl1 z
                  · have z : upd w.H a _ a = none := z
                    rw [upd_same] at z
                    cases z
                have hH2 : w2.H a = some (.frz od (.dK (ks.zip xs))) := st2.x.keep a _ hH0 nl'
                have nl2 : ¬ w2.live a := fun q => by
                  rcases st2.x.live a q with z | z
                  · exact nl' z
                  · rw [hH0] at z
                    cases z
                cases r with
                | @loc _ a' hm' =>
                  cases hm2.symm.trans hm'
                  refine ⟨w2, d1, rfl, s2, e'.ext st2.x s', ?_⟩
                  unfold fVar
                  rw [hkv]
                  intro w3 y eS3 st3 s3 r3
                  have hH3 : w3.H a = some (.frz od (.dK (ks.zip xs))) := st3.x.keep a _ hH2 nl2
                  have hy := keyU_ok r3 hkk
                  subst hy
                  have rs3 : VRs (KMof X) w3 us xs := ((rs1.ext x' s1).ext st2.x s').ext st3.x s2
                  obtain ⟨v, e1', e2'⟩ := (valU_ok (ks := ks) k rs3).2 z hz
                  refine ⟨a, v, rfl, .inl ⟨ks.zip xs, k, .inr ⟨od, hH3⟩, rfl, by rw [e1']⟩, ?_⟩
                  exact h1 w3 v eS3 (st2.trans st3) s3 e2'
              · exact h1.elim
            · exact h1.elim
          · exact h1.elim
        · exact h1.elim
      · rw [show (w.put n a (.frz od (.dK (ks.zip xs))) .dead).S = w.S.set n .dead from rfl]
        revert h
        generalize dComp (aKeysAt n ks fi) g ft fk (fReadAt n ks us fi ik) (own.map (·.2)) d (w.S.set n .dead) = r
        intro h
        cases r with
        | bad => exact h.elim
        | exc x S2 => exact h.elim
        | ok us2 S2 =>
          intro w2 p ys eS st s2 le ry hp
          obtain ⟨b1, b2⟩ := back st s2
          have hap : a ≠ p := fun e => by
            have := (lk st).h
            rw [e, hp] at this
            cases this
          refine ⟨(upd_ne hap).trans (lk st).h, ?_⟩
          rw [upd_comm hap]
          exact h (w2.put n a (.dK (ks.zip xs)) (.dic ks us)) p ys (by show w2.S.set n _ = _; rw [eS]) b1 b2 le (ry.unl (lk st)) ((Lk.at _ (fun e => hap e.symm)).trans hp)
    · exact h.elim
  · exact h.elim
end
end DL
set_option maxHeartbeats 1000000
namespace DL
open PySem PySem.Spec PyProof.Rows L2
section
variable {X : Cx}
def fstIx (z : Str) : List Str → Option Nat
  | [] => none
  | y :: ys => if y = z then some 0 else (fstIx z ys).map (· + 1)
theorem fstIx_ok {z : Str} : ∀ {ys : List Str} {j : Nat}, fstIx z ys = some j → ys[j]? = some z ∧ ∀ m, m < j → ys[m]? ≠ some z
  | [], _, h => by cases h
  | y :: ys, j, h => by
    unfold fstIx at h
    by_cases e : y = z
    · rw [if_pos e] at h
      cases h
      exact ⟨by rw [e]; rfl, fun m hm => absurd hm (Nat.not_lt_zero _)⟩
    · rw [if_neg e] at h
      obtain ⟨i, hi, rfl⟩ := Option.map_eq_some_iff.mp h
      obtain ⟨h1, h2⟩ := fstIx_ok hi
      refine ⟨h1, fun m hm => ?_⟩
      cases m with
      | zero => exact fun q => e (Option.some.inj q)
      | succ m => exact h2 m (by omega)
structure TupF (K : PySem.W.Frag) (a : Addr) (ys : List Str) : Prop where
  ex : ∃ (o : Obj) (its : Array Value) (n : Nat), K.lookup a = some o ∧ o.cls = .type "tuple" ∧ o.data = .seq its n ∧ its.size ≤ sizeLine ∧ Vals (ys.map V.str) its.toList ∧ o.dict = none
def fTixg (ys : List Str) (f : FE) : FE := fun d S => (f d S).bind fun u S1 => match u with
  | .str z => (match fstIx z ys with
    | some j => .ok (.int (j : Nat)) S1
    | none => .bad)
  | _ => .bad
variable {Wx : WX}
theorem se_tixg {x : Str} {p apos cpos : Pos} {k : Value} {ys : List Str} {e : Expr} {f : FE} (D : ∃ a, k = .ref a ∧ TupF X.K a ys) (hg : Gl X x) (hm : X.mg x = some k) (he : SimE X Wx e f)
    (hbase : attributeBase (.Name x p) "index" X.env (eval (.Name x p) X.env) = eval (.Name x p) X.env := by rfl)
    (hfew : ((backTo cpos (starEach [e] X.env)).all (fun x => !x.1) && (backToKw cpos (keywordEach [] X.env)).all (fun x => x.1.isSome)
      && decide (([e] : List Expr).length + ([] : List Keyword).length + (if ([] : List Keyword).isEmpty then 0 else 1) < 30)) = true := by rfl)
    (hline : (apos.endLine == cpos.line) = true := by rfl) (hs : starEach [e] X.env = (false, eval e X.env) :: starEach [] X.env := by rfl) (hplain : (backTo cpos (starEach [] X.env)).any (·.1) = false := by rfl)
    (hd : (x == ("__debug__" : Str)) = false := by decide) : SimE X Wx (.Call (.Attribute (.Name x p) "index" apos) [e] [] cpos) (fTixg ys f) := by
  obtain ⟨a, rfl, o, its, n, h1, h2, h3, h4, h5, h6⟩ := D
  obtain ⟨t, pe, he⟩ := he.out
  refine SimE.mk (pe_bm PySem.F.plainAttrs_tuple PySem.F.slot_tuple_index PySem.F.type_tuple_index mt_tup_index (pe_glob (v := .ref a) hg hm rfl hd) (pa_cons pe pa_nil hs) hbase hfew hline hs hplain) (fun w d σ Q s e h => ?_)
  refine ⟨.inr (.inl ⟨rfl, o, h1, h2, h6⟩), ?_⟩
  refine he w d σ _ s e ((Pst.of_bind h).mono (fun u S1 h1' w1 v eS st s1 r => ?_) fun _ _ q => q)
  cases r with
  | str z =>
    cases hl : fstIx z ys with
    | none =>
      have h1' : Pst (match fstIx z ys with
        | some j => R.ok (.int (j : Nat)) S1
        | none => .bad) (OkE X w Q) (XPost X Wx σ w) := h1'
      rw [hl] at h1'
      exact h1'.elim
    | some j =>
      have h1' : Pst (match fstIx z ys with
        | some j => R.ok (.int (j : Nat)) S1
        | none => .bad) (OkE X w Q) (XPost X Wx σ w) := h1'
      rw [hl] at h1'
      obtain ⟨q1, q2⟩ := fstIx_ok hl
      exact ⟨a, ys, z, j, rfl, rfl, .inr ⟨o, its, n, h1, h2, h3, h4, h5⟩, q1, q2, h1' w1 _ eS st s1 (.int _)⟩
  | _ => exact h1'.elim
end
end DL
namespace DL
open PySem PySem.Spec PyProof.Rows L2
section
variable {X : Cx} {Wx : WX}
end
end DL
namespace DL
open PySem PySem.Spec L2
section
variable {X : Cx} {Wx : WX}
end
end DL
set_option maxHeartbeats 1000000
namespace DL
open PySem PySem.Spec L2 PyProof.Rows HT
section
variable {X : Cx}
end
end DL
set_option maxHeartbeats 1000000
namespace DL
open PySem PySem.Spec L2
section
variable {X : Cx} {Wx : WX}
def qKinds : List String := ["list", "int", "tuple", "str", "bool"]
structure InsQ (K : PySem.W.Frag) (C : Addr) : Prop where
  no : ∀ t ∈ qKinds, PySem.W.kitOne K (.type t) (.ref C) = some false
end
end DL
set_option maxHeartbeats 1000000
namespace DL
open PySem PySem.Spec L2
section
variable {X : Cx} {Wx : WX}
def enB (K : PySem.W.Frag) (C : Addr) : Bool := decide (PySem.W.kitOne K (.type "NoneType") (.ref C) = some false)
def isNC (c : Str) (us : List U) (S : Sto) : R U := match us with
  | [.non, .cl c'] => guard (decide (c' = c)) (.ok (.bl false) S)
  | _ => .bad
theorem cs_isN {c : Str} {C : Addr} (hm : X.mg c = some (.ref C)) (hn : enB X.K C = true) : CallSim X (.builtin "isinstance") (isNC c) := by
  refine ⟨_, call_isi, fun us S => ?_, fun w us vs Q s rs h => ?_⟩
  · unfold isNC
    split
    · exact noX_guard trivial
    · trivial
  · unfold isNC at h
    split at h
    · rename_i c'
      obtain ⟨hi, h2⟩ := guard_post h
      have e := of_decide_eq_true hi
      subst e
      cases rs with
      | cons r rs =>
        cases rs with
        | cons r2 rs =>
          cases rs
          cases r2 with
          | cl hm2 =>
            have z := hm.symm.trans hm2
            cases z
            exact ⟨_, _, _, _, _, rfl, .own _, tyName_ok (u := .non) s r rfl, of_decide_eq_true hn, OkE.here h2 s (.bl false)⟩
    · exact h.elim
def isxNC (tab : IsTab) (c : Str) (us : List U) (S : Sto) : R U := alt (isNC c us S) (isxC tab us S)
theorem cs_isxN {tab : IsTab} {c : Str} {C : Addr} (T : IsOk X.K X.mg tab) (hm : X.mg c = some (.ref C)) (hn : enB X.K C = true) : CallSim X (.builtin "isinstance") (isxNC tab c) := by
  obtain ⟨r1, h1, n1, s1⟩ := cs_isN (X := X) hm hn
  obtain ⟨r2, h2, n2, s2⟩ := cs_isx (X := X) T
  refine ⟨_, h1.or h2, fun us S => noX_alt (n1 us S) (n2 us S), fun w us vs Q s rs h => ?_⟩
  unfold isxNC at h
  rcases pst_alt h with h | h
  · exact .inl (s1 w us vs Q s rs h)
  · exact .inr (s2 w us vs Q s rs h)
end
end DL
namespace Law
open PySem PySem.Spec L2 DL
noncomputable section
def topS (i : Nat) : Stmt := PySem.Challenge.pw_middlesay_k93_desk_deeds.main.body.getD i (.Pass ⟨0, 0, 0, 0⟩)
abbrev s_is_word : Stmt := topS 11
abbrev s_parts_in : Stmt := topS 12
abbrev s_is_saying : Stmt := topS 13
abbrev s_is_row : Stmt := topS 18
abbrev s_law_tape : Stmt := topS 20
abbrev s_law_draw : Stmt := topS 21
abbrev s_law_words : Stmt := topS 22
abbrev s_law_saying : Stmt := topS 23
abbrev s_law_desk_row : Stmt := topS 24
abbrev s_law_after : Stmt := topS 25
abbrev s_law_bad : Stmt := topS 26
abbrev s_law_told : Stmt := topS 27
abbrev s_law_right : Stmt := topS 28
abbrev s_law_several : Stmt := topS 29
abbrev s_law_many : Stmt := topS 30
abbrev s_law : Stmt := topS 31
abbrev s_Desk___init__ : Stmt := clsM (topS 17) 0
abbrev s_Desk_note : Stmt := clsM (topS 17) 1
abbrev s_Desk_put : Stmt := clsM (topS 17) 2
abbrev s_Desk_need : Stmt := clsM (topS 17) 3
abbrev s_Desk_drop : Stmt := clsM (topS 17) 4
abbrev s_Desk_move : Stmt := clsM (topS 17) 5
abbrev s_Desk_undo : Stmt := clsM (topS 17) 6
abbrev s_Desk_deeds : Stmt := clsM (topS 17) 7
abbrev s_Desk_do : Stmt := clsM (topS 17) 8
abbrev s_Desk_several : Stmt := clsM (topS 17) 9
abbrev s_Desk_labels : Stmt := clsM (topS 17) 10
abbrev n_is_word : List Str := ["thing", "sign"]
theorem sc_is_word : FnScope n_is_word ["thing"] (defScope s_is_word) := ⟨rfl, rfl, rfl, by decide +kernel, rfl, by decide +kernel, by decide +kernel⟩
abbrev n_parts_in : List Str := ["thing", "deep", "many", "found", "part"]
theorem sc_parts_in : FnScope n_parts_in ["thing", "deep"] (defScope s_parts_in) := ⟨rfl, rfl, rfl, by decide +kernel, rfl, by decide +kernel, by decide +kernel⟩
abbrev n_is_saying : List Str := ["thing"]
theorem sc_is_saying : FnScope n_is_saying ["thing"] (defScope s_is_saying) := ⟨rfl, rfl, rfl, by decide +kernel, rfl, by decide +kernel, by decide +kernel⟩
abbrev n_is_row : List Str := ["thing"]
theorem sc_is_row : FnScope n_is_row ["thing"] (defScope s_is_row) := ⟨rfl, rfl, rfl, by decide +kernel, rfl, by decide +kernel, by decide +kernel⟩
abbrev n_law_tape : List Str := ["_law_script"]
theorem sc_law_tape : FnScope n_law_tape ["_law_script"] (defScope s_law_tape) := ⟨rfl, rfl, rfl, by decide +kernel, rfl, by decide +kernel, by decide +kernel⟩
abbrev n_law_draw : List Str := ["_law_tape_here", "_law_many_here", "_law_spot", "_law_cells", "_law_cell", "_law_primes", "_law_prime", "_law_seed", "_law_found"]
theorem sc_law_draw : FnScope n_law_draw ["_law_tape_here", "_law_many_here"] (defScope s_law_draw) := ⟨rfl, rfl, rfl, by decide +kernel, rfl, by decide +kernel, by decide +kernel⟩
abbrev n_law_words : List Str := ["_law_tape_here", "_law_many_here", "_law_letters", "_law_own", "_law_base", "_law_found", "_law_k", "_law_letter", "_law_some", "_law_word", "_law_more"]
theorem sc_law_words : FnScope n_law_words ["_law_tape_here", "_law_many_here"] (defScope s_law_words) := ⟨rfl, rfl, rfl, by decide +kernel, rfl, by decide +kernel, by decide +kernel⟩
abbrev n_law_saying : List Str := ["_law_tape_here", "_law_names", "_law_left", "_law_deep", "_law_kind", "_law_word", "_law_first"]
theorem sc_law_saying : FnScope n_law_saying ["_law_tape_here", "_law_names", "_law_left", "_law_deep"] (defScope s_law_saying) := ⟨rfl, rfl, rfl, by decide +kernel, rfl, by decide +kernel, by decide +kernel⟩
abbrev n_law_desk_row : List Str := ["_law_tape_here", "_law_labels", "_law_sayings", "_law_label", "_law_kind"]
theorem sc_law_desk_row : FnScope n_law_desk_row ["_law_tape_here", "_law_labels", "_law_sayings"] (defScope s_law_desk_row) := ⟨rfl, rfl, rfl, by decide +kernel, rfl, by decide +kernel, by decide +kernel⟩
abbrev n_law_after : List Str := ["_law_there", "_law_row", "_law_more", "_law_side", "_law_saying_here"]
theorem sc_law_after : FnScope n_law_after ["_law_there", "_law_row"] (defScope s_law_after) := ⟨rfl, rfl, rfl, by decide +kernel, rfl, by decide +kernel, by decide +kernel⟩
abbrev n_law_bad : List Str := ["_law_tape_here", "_law_labels", "_law_label", "_law_some"]
theorem sc_law_bad : FnScope n_law_bad ["_law_tape_here", "_law_labels"] (defScope s_law_bad) := ⟨rfl, rfl, rfl, by decide +kernel, rfl, by decide +kernel, by decide +kernel⟩
abbrev n_law_told : List Str := ["_law_desk", "_law_word", "_law_row", "_law_caught", "e"]
theorem sc_law_told : FnScope n_law_told ["_law_desk", "_law_word", "_law_row"] (defScope s_law_told) := ⟨rfl, rfl, rfl, by decide +kernel, rfl, by decide +kernel, by decide +kernel⟩
abbrev n_law_right : List Str := ["_law_desk", "_law_states", "_law_many_here", "_law_there", "_law_label"]
theorem sc_law_right : FnScope n_law_right ["_law_desk", "_law_states", "_law_many_here"] (defScope s_law_right) := ⟨rfl, rfl, rfl, by decide +kernel, rfl, by decide +kernel, by decide +kernel⟩
abbrev n_law_several : List Str := ["_law_tape_here", "_law_labels", "_law_sayings", "_law_there", "_law_rows", "_law_states", "_law_at", "_law_row", "_law_good", "_law_more", "_law_k"]
theorem sc_law_several : FnScope n_law_several ["_law_tape_here", "_law_labels", "_law_sayings", "_law_there"] (defScope s_law_several) := ⟨rfl, rfl, rfl, by decide +kernel, rfl, by decide +kernel, by decide +kernel⟩
abbrev n_law_many : List Str := ["_law_desk", "_law_label", "_law_many_here", "_law_more", "_law_k"]
theorem sc_law_many : FnScope n_law_many ["_law_desk", "_law_label", "_law_many_here", "_law_more"] (defScope s_law_many) := ⟨rfl, rfl, rfl, by decide +kernel, rfl, by decide +kernel, by decide +kernel⟩
abbrev n_law : List Str := ["_law_script", "_law_tape_here", "_law_words_here", "_law_sayings", "_law_desk", "_law_states", "_law_many_here", "_law_turn", "_law_way", "_law_k", "_law_due", "_law_rows", "_law_more", "_law_kept", "_law_row", "_law_one"]
theorem sc_law : FnScope n_law ["_law_script"] (defScope s_law) := ⟨rfl, rfl, rfl, by decide +kernel, rfl, by decide +kernel, by decide +kernel⟩
abbrev n_Desk___init__ : List Str := ["self"]
theorem sc_Desk___init__ : FnScope n_Desk___init__ ["self"] (defScope s_Desk___init__) := ⟨rfl, rfl, rfl, by decide +kernel, rfl, by decide +kernel, by decide +kernel⟩
abbrev n_Desk_note : List Str := ["self", "there"]
theorem sc_Desk_note : FnScope n_Desk_note ["self", "there"] (defScope s_Desk_note) := ⟨rfl, rfl, rfl, by decide +kernel, rfl, by decide +kernel, by decide +kernel⟩
abbrev n_Desk_put : List Str := ["self", "label", "side", "saying", "more"]
theorem sc_Desk_put : FnScope n_Desk_put ["self", "label", "side", "saying"] (defScope s_Desk_put) := ⟨rfl, rfl, rfl, by decide +kernel, rfl, by decide +kernel, by decide +kernel⟩
abbrev n_Desk_need : List Str := ["self", "label"]
theorem sc_Desk_need : FnScope n_Desk_need ["self", "label"] (defScope s_Desk_need) := ⟨rfl, rfl, rfl, by decide +kernel, rfl, by decide +kernel, by decide +kernel⟩
abbrev n_Desk_drop : List Str := ["self", "label", "name"]
theorem sc_Desk_drop : FnScope n_Desk_drop ["self", "label"] (defScope s_Desk_drop) := ⟨rfl, rfl, rfl, by decide +kernel, rfl, by decide +kernel, by decide +kernel⟩
abbrev n_Desk_move : List Str := ["self", "label", "side", "saying", "more"]
theorem sc_Desk_move : FnScope n_Desk_move ["self", "label"] (defScope s_Desk_move) := ⟨rfl, rfl, rfl, by decide +kernel, rfl, by decide +kernel, by decide +kernel⟩
abbrev n_Desk_undo : List Str := ["self"]
theorem sc_Desk_undo : FnScope n_Desk_undo ["self"] (defScope s_Desk_undo) := ⟨rfl, rfl, rfl, by decide +kernel, rfl, by decide +kernel, by decide +kernel⟩
abbrev n_Desk_deeds : List Str := ["self"]
theorem sc_Desk_deeds : FnScope n_Desk_deeds ["self"] (defScope s_Desk_deeds) := ⟨rfl, rfl, rfl, by decide +kernel, rfl, by decide +kernel, by decide +kernel⟩
abbrev n_Desk_do : List Str := ["self", "row", "at"]
theorem sc_Desk_do : FnScope n_Desk_do ["self", "row", "at"] (defScope s_Desk_do) := ⟨rfl, rfl, rfl, by decide +kernel, rfl, by decide +kernel, by decide +kernel⟩
abbrev n_Desk_several : List Str := ["self", "rows", "there", "many", "ahead", "done", "at", "row"]
theorem sc_Desk_several : FnScope n_Desk_several ["self", "rows"] (defScope s_Desk_several) := ⟨rfl, rfl, rfl, by decide +kernel, rfl, by decide +kernel, by decide +kernel⟩
abbrev n_Desk_labels : List Str := ["self", "label"]
theorem sc_Desk_labels : FnScope n_Desk_labels ["self"] (defScope s_Desk_labels) := ⟨rfl, rfl, rfl, by decide +kernel, rfl, by decide +kernel, by decide +kernel⟩
abbrev sx_NoRow : Stmt := clsInit (topS 2)
theorem scx_NoRow : FnScope ["self", "row"] ["self", "row"] (defScope sx_NoRow) := ⟨rfl, rfl, rfl, by decide +kernel, rfl, by decide +kernel, by decide +kernel⟩
abbrev sx_NoLabel : Stmt := clsInit (topS 3)
theorem scx_NoLabel : FnScope ["self", "label"] ["self", "label"] (defScope sx_NoLabel) := ⟨rfl, rfl, rfl, by decide +kernel, rfl, by decide +kernel, by decide +kernel⟩
def is_tab : IsTab := (iO "NoRow" "NoLabel" false :: (iT "NoRow" "KeyError" false :: (iO "NoRow" "NoRow" true :: (iT "NoRow" "ValueError" true :: (iO "NoLabel" "NoLabel" true :: (iT "NoLabel" "KeyError" true :: (iO "NoLabel" "NoRow" false :: (iT "NoLabel" "ValueError" false :: ([])))))))))
def ex_NoLabel : List (Str × Bool) := [("NoRow", false), ("NoLabel", true)]
def ex_NoRow : List (Str × Bool) := [("NoRow", true), ("NoLabel", false)]
abbrev i_is_word : Nat := 0
abbrev i_parts_in : Nat := 1
abbrev i_is_saying : Nat := 2
abbrev i_is_row : Nat := 3
abbrev i_law_tape : Nat := 4
abbrev i_law_draw : Nat := 5
abbrev i_law_words : Nat := 6
abbrev i_law_saying : Nat := 7
abbrev i_law_desk_row : Nat := 8
abbrev i_law_after : Nat := 9
abbrev i_law_bad : Nat := 10
abbrev i_law_told : Nat := 11
abbrev i_law_right : Nat := 12
abbrev i_law_several : Nat := 13
abbrev i_law_many : Nat := 14
abbrev i_law : Nat := 15
abbrev i_Desk___init__ : Nat := 16
abbrev i_Desk_note : Nat := 17
abbrev i_Desk_put : Nat := 18
abbrev i_Desk_need : Nat := 19
abbrev i_Desk_drop : Nat := 20
abbrev i_Desk_move : Nat := 21
abbrev i_Desk_undo : Nat := 22
abbrev i_Desk_deeds : Nat := 23
abbrev i_Desk_do : Nat := 24
abbrev i_Desk_several : Nat := 25
abbrev i_Desk_labels : Nat := 26
def c_DEEPEST : U := (.int 25)
def c_LETTERS : U := (.str "abcdefghijklmnopqrstuvwxyz")
def c_LONGEST_WORD : U := (.int 8)
def t_MANY : List (Str × U) := [(("yes" : Str), (.int 0)), (("no" : Str), (.int 0)), (("not" : Str), (.int 1)), (("and" : Str), (.int 2)), (("or" : Str), (.int 2)), (("if" : Str), (.int 2)), (("same" : Str), (.int 2))]
def c_MOST_PARTS : U := (.int 400)
def c_SIDES : U := (.tup [(.str "one"), (.str "other")])
def c_WORDS_OF_TEXTS : U := (.tup [(.str "not"), (.str "and"), (.str "or"), (.str "gives"), (.str "is"), (.str "yes"), (.str "no")])
def b_is_word (c : Nat → List U → Sto → R U) : FS :=
  (fSeq (fIfS (fOr (fNot (fTru (fA isiC (aCons (fVar 0) (aCons (fC (.ty "str")) aNil))))) (fNot (fB (fCh leU leU (fC (.int 1)) (fA lenC (aCons (fVar 0) aNil)) (fC c_LONGEST_WORD))))) (fRet (fC (.bl false))) fNop)
    (fRet (fAndV (fA allC (aCons (fVal (aComp (aOver strV (fVar 0)) (gN 1) fYes (f2 inU (fVar 1) (fC c_LETTERS)) [1])) aNil)) (f2 ninU (fVar 0) (fC c_WORDS_OF_TEXTS)))))
def b_parts_in (c : Nat → List U → Sto → R U) : FS :=
  (fSeq (fIfS (fOr (fB (f2 gtU (fVar 1) (fC c_DEEPEST))) (fOr (fNot (fTru (fA isiC (aCons (fVar 0) (aCons (fC (.ty "tuple")) aNil))))) (fOr (fB (f2 ltU (fA lenC (aCons (fVar 0) aNil)) (fC (.int 1)))) (fNot (fTru (fA isiC (aCons (f2 ixU (fVar 0) (fC (.int 0))) (aCons (fC (.ty "str")) aNil)))))))) (fRet (f2 addU (fC c_MOST_PARTS) (fC (.int 1)))) fNop)
    (fSeq (fIfS (fB (f2 eqU (f2 ixU (fVar 0) (fC (.int 0))) (fC (.str "name")))) (fRet (fIf (fAnd (fB (f2 eqU (fA lenC (aCons (fVar 0) aNil)) (fC (.int 2)))) (fTru (fCall 1 (c i_is_word) (aCons (f2 ixU (fVar 0) (fC (.int 1))) aNil)))) (fC (.int 1)) (f2 addU (fC c_MOST_PARTS) (fC (.int 1))))) fNop)
    (fSeq (fSet 2 (fWget t_MANY (f2 ixU (fVar 0) (fC (.int 0)))))
    (fSeq (fIfS (fOr (fB (f2 isU (fVar 2) (fC .non))) (fB (f2 neU (fA lenC (aCons (fVar 0) aNil)) (f2 addU (fC (.int 1)) (fVar 2))))) (fRet (f2 addU (fC c_MOST_PARTS) (fC (.int 1)))) fNop)
    (fSeq (fSet 3 (fC (.int 1)))
    (fSeq (fFor (aOver tupV (fSl (fVar 0) (oSome (fC (.int 1))) oNone)) (gN 4) (fSeq (fSet 3 (f2 addU (fVar 3) (fCall 2 (c i_parts_in) (aCons (fVar 4) (aCons (f2 addU (fVar 1) (fC (.int 1))) aNil)))))
    (fIfS (fB (f2 gtU (fVar 3) (fC c_MOST_PARTS))) (fRet (fVar 3)) fNop)))
    (fRet (fVar 3))))))))
def b_is_saying (c : Nat → List U → Sto → R U) : FS :=
  (fRet (f2 leU (fCall 2 (c i_parts_in) (aCons (fVar 0) (aCons (fC (.int 1)) aNil))) (fC c_MOST_PARTS)))
def b_is_row (c : Nat → List U → Sto → R U) : FS :=
  (fSeq (fIfS (fOr (fNot (fTru (fA isiC (aCons (fVar 0) (aCons (fC (.ty "tuple")) aNil))))) (fOr (fB (f2 ltU (fA lenC (aCons (fVar 0) aNil)) (fC (.int 2)))) (fNot (fTru (fCall 1 (c i_is_word) (aCons (f2 ixU (fVar 0) (fC (.int 1))) aNil)))))) (fRet (fC (.bl false))) fNop)
    (fSeq (fIfS (fB (f2 inU (f2 ixU (fVar 0) (fC (.int 0))) (fTup (aCons (fC (.str "drop")) (aCons (fC (.str "move")) aNil))))) (fRet (f2 eqU (fA lenC (aCons (fVar 0) aNil)) (fC (.int 2)))) fNop)
    (fSeq (fIfS (fOr (fB (f2 neU (f2 ixU (fVar 0) (fC (.int 0))) (fC (.str "put")))) (fOr (fB (f2 neU (fA lenC (aCons (fVar 0) aNil)) (fC (.int 4)))) (fNot (fTru (fA isiC (aCons (f2 ixU (fVar 0) (fC (.int 2))) (aCons (fC (.ty "str")) aNil))))))) (fRet (fC (.bl false))) fNop)
    (fRet (fAndV (f2 inU (f2 ixU (fVar 0) (fC (.int 2))) (fC c_SIDES)) (fCall 1 (c i_is_saying) (aCons (f2 ixU (fVar 0) (fC (.int 3))) aNil)))))))
def b_law_tape (c : Nat → List U → Sto → R U) : FS :=
  (fRet (fDloc (dDisp [((fC (.str "cells")), (fSl (fVar 0) oNone (oSome (fC (.int 63))))), ((fC (.str "spot")), (fC (.int 0))), ((fC (.str "left")), (fC (.int 0)))])))
def b_law_draw (c : Nat → List U → Sto → R U) : FS :=
  (fSeq (fIfS (fB (f2 gtU (f2 ixU (fVar 0) (fC (.str "left"))) (fC (.int 0)))) (fSeq (fSet 8 (f2 modU (f2 ixU (fVar 0) (fC (.str "left"))) (fVar 1)))
    (fSeq (fStore (f2 fdivU (f2 ixU (fVar 0) (fC (.str "left"))) (fVar 1)) (fVar 0) (fC (.str "left")))
    (fRet (fVar 8)))) fNop)
    (fSeq (fSet 2 (f2 ixU (fVar 0) (fC (.str "spot"))))
    (fSeq (fStore (f2 addU (fVar 2) (fC (.int 1))) (fVar 0) (fC (.str "spot")))
    (fSeq (fSet 3 (fOrV (f2 ixU (fVar 0) (fC (.str "cells"))) (fVal (aLst (aCons (fC (.int 0)) aNil)))))
    (fSeq (fSet 4 (f2 ixU (fVar 3) (f2 modU (fVar 2) (fA lenC (aCons (fVar 3) aNil)))))
    (fSeq (fIfS (fAnd (fB (f2 geU (fVar 4) (f2 powU (fC (.int 10)) (fC (.int 18))))) (fB (f2 ltU (fVar 2) (fA lenC (aCons (fVar 3) aNil))))) (fSeq (fStore (f2 fdivU (f2 subU (fVar 4) (f2 powU (fC (.int 10)) (fC (.int 18)))) (fVar 1)) (fVar 0) (fC (.str "left")))
    (fRet (f2 modU (f2 subU (fVar 4) (f2 powU (fC (.int 10)) (fC (.int 18)))) (fVar 1)))) fNop)
    (fSeq (fSet 5 (fVal (aLst (aCons (fC (.int 2147483647)) (aCons (fC (.int 2147483629)) (aCons (fC (.int 2147483587)) (aCons (fC (.int 2147483579)) (aCons (fC (.int 2147483563)) (aCons (fC (.int 2147483549)) (aCons (fC (.int 2147483543)) aNil))))))))))
    (fSeq (fSet 6 (f2 ixU (fVar 5) (f2 modU (fVar 2) (fC (.int 7)))))
    (fSeq (fSet 7 (f2 modU (f2 addU (f2 addU (f2 addU (f2 mulU (f2 modU (fVar 4) (fVar 6)) (fC (.int 48271))) (f2 mulU (f2 mulU (fC (.int 7919)) (fVar 2)) (fVar 2))) (f2 mulU (fC (.int 69621)) (fVar 2))) (fC (.int 1))) (fVar 6)))
    (fSeq (fSet 7 (f2 modU (f2 mulU (fVar 7) (f2 addU (fVar 7) (fC (.int 16807)))) (f2 ixU (fVar 5) (f2 modU (f2 addU (fVar 2) (fC (.int 3))) (fC (.int 7))))))
    (fSeq (fSet 8 (f2 fdivU (f2 modU (f2 mulU (fVar 7) (fVar 7)) (fVar 6)) (fC (.int 64))))
    (fSeq (fIfS (fB (f2 gtU (fVar 1) (f2 powU (fC (.int 10)) (fC (.int 6))))) (fSet 8 (f2 addU (f2 modU (fVar 8) (f2 powU (fC (.int 10)) (fC (.int 6)))) (f2 mulU (f2 powU (fC (.int 10)) (fC (.int 6))) (fCall 2 (c i_law_draw) (aCons (fVar 0) (aCons (f2 addU (f2 fdivU (fVar 1) (f2 powU (fC (.int 10)) (fC (.int 6)))) (fC (.int 1))) aNil)))))) fNop)
    (fRet (f2 modU (fVar 8) (fVar 1)))))))))))))))
def b_law_words (c : Nat → List U → Sto → R U) : FS :=
  (fSeq (fSet 2 (fC (.str "abcdefghijklmnopqrstuvwxyz")))
    (fSeq (fSet 3 (fM "str" splitM (fC (.str "nota andy org isa yesno given noa same")) (aCons (fC (.str " ")) aNil)))
    (fSeq (fSet 4 (fM "str" joinM (fC (.str "")) (aCons (fVal (aComp (aRng1 (aCons (f2 addU (fC (.int 1)) (fCall 2 (c i_law_draw) (aCons (fVar 0) (aCons (fC (.int 6)) aNil)))) aNil)) (gN 6) fYes (f2 ixU (fVar 2) (fCall 2 (c i_law_draw) (aCons (fVar 0) (aCons (fC (.int 26)) aNil)))) [6])) aNil)))
    (fSeq (fSet 5 (fLoc (aLst aNil)))
    (fSeq (fFor (aRng1 (aCons (fVar 1) aNil)) (gN 6) (fSeq (fSet 7 (f2 ixU (fVar 2) (fCall 2 (c i_law_draw) (aCons (fVar 0) (aCons (fC (.int 26)) aNil)))))
    (fSeq (fSet 8 (fVal (aLst (aCons (fVar 4) (aCons (f2 addU (fVar 4) (fVar 7)) (aCons (f2 addU (fVar 7) (fVar 4)) (aCons (fVar 7) (aCons (f2 addU (f2 addU (fVar 4) (fVar 7)) (fVar 7)) (aCons (f2 ixU (fVar 3) (fCall 2 (c i_law_draw) (aCons (fVar 0) (aCons (fC (.int 8)) aNil)))) aNil)))))))))
    (fSeq (fSet 9 (fSl (f2 ixU (fVar 8) (fCall 2 (c i_law_draw) (aCons (fVar 0) (aCons (fC (.int 6)) aNil)))) oNone (oSome (fC (.int 8)))))
    (fSeq (fFor (aOver strV (fVar 2)) (gN 10) (fIfS (fOr (fB (f2 inU (fVar 9) (fVar 5))) (fB (f2 inU (fVar 9) (fTup (aCons (fC (.str "not")) (aCons (fC (.str "and")) (aCons (fC (.str "or")) (aCons (fC (.str "gives")) (aCons (fC (.str "is")) (aCons (fC (.str "yes")) (aCons (fC (.str "no")) aNil))))))))))) (fSet 9 (f2 addU (fSl (fVar 9) oNone (oSome (fC (.int 7)))) (fVar 10))) fNop))
    (fExpr (fM "list" appM (fVar 5) (aCons (fVar 9) aNil))))))))
    (fRet (fIce (fVar 5))))))))
def b_law_saying (c : Nat → List U → Sto → R U) : FS :=
  (fSeq (fSet 4 (fCall 2 (c i_law_draw) (aCons (fVar 0) (aCons (fC (.int 10)) aNil))))
    (fSeq (fIfS (fOr (fB (f2 ltU (f2 ixU (fVar 2) (fC (.int 0))) (fC (.int 2)))) (fOr (fB (f2 ltU (fVar 3) (fC (.int 2)))) (fB (f2 ltU (fVar 4) (fC (.int 3)))))) (fRet (f2 ixU (fVal (aLst (aCons (fTup (aCons (fC (.str "yes")) aNil)) (aCons (fTup (aCons (fC (.str "no")) aNil)) (aCons (fTup (aCons (fC (.str "name")) (aCons (f2 ixU (fVar 1) (fCall 2 (c i_law_draw) (aCons (fVar 0) (aCons (fA lenC (aCons (fVar 1) aNil)) aNil)))) aNil))) aNil))))) (fA minC (aCons (fC (.int 2)) (aCons (fCall 2 (c i_law_draw) (aCons (fVar 0) (aCons (fC (.int 12)) aNil))) aNil))))) fNop)
    (fSeq (fStore (f2 subU (f2 subU (f2 ixU (fVar 2) (fC (.int 0))) (fC (.int 1))) (fA intC (aCons (f2 gtU (fVar 4) (fC (.int 3))) aNil))) (fVar 2) (fC (.int 0)))
    (fSeq (fIfS (fB (f2 eqU (fVar 4) (fC (.int 3)))) (fRet (fTup (aCons (fC (.str "not")) (aCons (fCall 4 (c i_law_saying) (aCons (fVar 0) (aCons (fVar 1) (aCons (fVar 2) (aCons (f2 subU (fVar 3) (fC (.int 1))) aNil))))) aNil)))) fNop)
    (fSeq (fSet 5 (f2 ixU (fVal (aLst (aCons (fC (.str "and")) (aCons (fC (.str "or")) (aCons (fC (.str "if")) (aCons (fC (.str "same")) (aCons (fC (.str "and")) (aCons (fC (.str "or")) aNil)))))))) (f2 subU (fVar 4) (fC (.int 4)))))
    (fSeq (fSet 6 (fCall 4 (c i_law_saying) (aCons (fVar 0) (aCons (fVar 1) (aCons (fVar 2) (aCons (f2 subU (fVar 3) (fC (.int 1))) aNil))))))
    (fRet (fTup (aCons (fVar 5) (aCons (fVar 6) (aCons (fCall 4 (c i_law_saying) (aCons (fVar 0) (aCons (fVar 1) (aCons (fVar 2) (aCons (f2 subU (fVar 3) (fC (.int 1))) aNil))))) aNil)))))))))))
def b_law_desk_row (c : Nat → List U → Sto → R U) : FS :=
  (fSeq (fSet 3 (f2 ixU (fVar 1) (fCall 2 (c i_law_draw) (aCons (fVar 0) (aCons (fA lenC (aCons (fVar 1) aNil)) aNil)))))
    (fSeq (fSet 4 (fCall 2 (c i_law_draw) (aCons (fVar 0) (aCons (fC (.int 6)) aNil))))
    (fSeq (fIfS (fB (f2 ltU (fVar 4) (fC (.int 3)))) (fRet (fTup (aCons (fC (.str "put")) (aCons (fVar 3) (aCons (f2 ixU (fVal (aLst (aCons (fC (.str "one")) (aCons (fC (.str "other")) aNil)))) (fCall 2 (c i_law_draw) (aCons (fVar 0) (aCons (fC (.int 2)) aNil)))) (aCons (f2 ixU (fVar 2) (fCall 2 (c i_law_draw) (aCons (fVar 0) (aCons (fA lenC (aCons (fVar 2) aNil)) aNil)))) aNil)))))) fNop)
    (fRet (fTup (aCons (f2 ixU (fVal (aLst (aCons (fC (.str "drop")) (aCons (fC (.str "move")) (aCons (fC (.str "move")) aNil))))) (f2 subU (fVar 4) (fC (.int 3)))) (aCons (fVar 3) aNil)))))))
def b_law_after (c : Nat → List U → Sto → R U) : FS :=
  (fSeq (fSet 2 (fDloc (fA dictC (aCons (fVar 0) aNil))))
    (fSeq (fIfS (fB (f2 eqU (f2 eqU (f2 ixU (fVar 1) (fC (.int 0))) (fC (.str "put"))) (f2 inU (f2 ixU (fVar 1) (fC (.int 1))) (fVar 0)))) (fRet (fC .non)) fNop)
    (fSeq (fIfS (fB (f2 eqU (f2 ixU (fVar 1) (fC (.int 0))) (fC (.str "put")))) (fStore (fTup (aCons (f2 ixU (fVar 1) (fC (.int 2))) (aCons (f2 ixU (fVar 1) (fC (.int 3))) aNil))) (fVar 2) (f2 ixU (fVar 1) (fC (.int 1)))) (fIfS (fB (f2 eqU (f2 ixU (fVar 1) (fC (.int 0))) (fC (.str "drop")))) (fExpr (fM "dict" dpopM (fVar 2) (aCons (f2 ixU (fVar 1) (fC (.int 1))) aNil))) (fSeq (fAsg (gTup 2 (gCons (gN 3) (gCons (gN 4) gNil))) (f2 ixU (fVar 0) (f2 ixU (fVar 1) (fC (.int 1)))))
    (fStore (fTup (aCons (fIf (fB (f2 eqU (fVar 3) (fC (.str "other")))) (fC (.str "one")) (fC (.str "other"))) (aCons (fVar 4) aNil))) (fVar 2) (f2 ixU (fVar 1) (fC (.int 1)))))))
    (fRet (fIce (fVar 2))))))
def b_law_bad (c : Nat → List U → Sto → R U) : FS :=
  (fSeq (fSet 2 (f2 ixU (fVar 1) (fC (.int 0))))
    (fSeq (fSet 3 (fLoc (aLst (aCons (fTup (aCons (fC (.str "put")) (aCons (fVar 2) (aCons (fC (.str "one")) aNil)))) (aCons (fTup (aCons (fC (.str "put")) (aCons (fVar 2) (aCons (fC (.str "both")) (aCons (fTup (aCons (fC (.str "yes")) aNil)) aNil))))) (aCons (fTup (aCons (fC (.str "put")) (aCons (fVar 2) (aCons (fC (.str "one")) (aCons (fC (.str "yes")) aNil))))) (aCons (fTup (aCons (fC (.str "drop")) aNil)) aNil)))))))
    (fSeq (fSet 3 (fLoc (aAdd (fVar 3) (fVal (aLst (aCons (fTup (aCons (fC (.str "drop")) (aCons (fC (.str "A")) aNil))) (aCons (fTup (aCons (fC (.str "move")) (aCons (fVar 2) (aCons (fC (.str "one")) aNil)))) (aCons (fVal (aLst (aCons (fC (.str "drop")) (aCons (fVar 2) aNil)))) (aCons (fTup (aCons (fC (.str "undo")) aNil)) (aCons (fTup aNil) (aCons (fC .non) (aCons (fC (.int 7)) (aCons (fC (.str "drop")) (aCons (fTup (aCons (fC (.str "drop")) (aCons (fC (.int 7)) aNil))) aNil))))))))))))))
    (fSeq (fSet 3 (fLoc (aAdd (fVar 3) (fVal (aLst (aCons (fTup (aCons (fC (.str "Drop")) (aCons (fVar 2) aNil))) (aCons (fTup (aCons (fC (.str "put")) (aCons (fVar 2) (aCons (fC (.str "one")) (aCons (fTup (aCons (fC (.str "name")) (aCons (fC (.str "or")) aNil))) aNil))))) (aCons (fTup (aCons (fC (.str "put")) (aCons (fVar 2) (aCons (fC (.str "other")) (aCons (fTup aNil) aNil))))) aNil))))))))
    (fSeq (fExpr (fM "list" appM (fVar 3) (aCons (fTup (aCons (fC (.str "put")) (aCons (fVar 2) (aCons (fC (.str "one")) (aCons (fTup (aCons (fC (.str "and")) (aCons (fTup (aCons (fC (.str "yes")) aNil)) aNil))) aNil))))) aNil)))
    (fSeq (fSet 3 (fLoc (aAdd (fVar 3) (fVal (aLst (aCons (fTup (aCons (fC (.str "put")) (aCons (fVar 2) (aCons (fC (.str "one")) (aCons (fTup (aCons (fC (.str "yes")) aNil)) (aCons (fC (.int 1)) aNil)))))) (aCons (fTup (aCons (fC (.str "put")) (aCons (fC (.str "not")) (aCons (fC (.str "one")) (aCons (fTup (aCons (fC (.str "yes")) aNil)) aNil))))) (aCons (fTup (aCons (fC (.str "put")) (aCons (fVar 2) (aCons (fC .non) (aCons (fTup (aCons (fC (.str "yes")) aNil)) aNil))))) aNil))))))))
    (fRet (f2 ixU (fVar 3) (fCall 2 (c i_law_draw) (aCons (fVar 0) (aCons (fA lenC (aCons (fVar 3) aNil)) aNil)))))))))))
def b_law_told (c : Nat → List U → Sto → R U) : FS :=
  (fSeq (fSet 3 (fC .non))
    (fSeq (fTry (lookAny [lookM ex_NoLabel, lookM ex_NoRow]) 4 (fIfS (fB (f2 eqU (fVar 1) (fC (.str "several")))) (fExpr (fMeth "Desk" "several" 2 (c i_Desk_several) (fVar 0) (aCons (fVar 2) aNil))) (fIfS (fB (f2 eqU (fVar 1) (fC (.str "undo")))) (fExpr (fMeth "Desk" "undo" 1 (c i_Desk_undo) (fVar 0) aNil)) (fIfS (fB (f2 eqU (fVar 1) (fC (.str "put")))) (fExpr (fMeth "Desk" "put" 4 (c i_Desk_put) (fVar 0) (aCons (f2 ixU (fVar 2) (fC (.int 1))) (aCons (f2 ixU (fVar 2) (fC (.int 2))) (aCons (f2 ixU (fVar 2) (fC (.int 3))) aNil))))) (fIfS (fB (f2 eqU (fVar 1) (fC (.str "drop")))) (fExpr (fMeth "Desk" "drop" 2 (c i_Desk_drop) (fVar 0) (aCons (f2 ixU (fVar 2) (fC (.int 1))) aNil))) (fExpr (fMeth "Desk" "move" 2 (c i_Desk_move) (fVar 0) (aCons (f2 ixU (fVar 2) (fC (.int 1))) aNil))))))) (fSet 3 (fVar 4)))
    (fSeq (fIfS (fTru (fA (isxNC is_tab "NoLabel") (aCons (fVar 3) (aCons (fC (.cl "NoLabel")) aNil)))) (fRet (fIf (fTru (fA (isxC is_tab) (aCons (fVar 3) (aCons (fC (.ty "KeyError")) aNil)))) (fTup (aCons (fC (.str "label")) (aCons (fFld ["NoLabel"] "label" (fVar 3)) aNil))) (fC .non))) fNop)
    (fSeq (fIfS (fTru (fA (isxNC is_tab "NoRow") (aCons (fVar 3) (aCons (fC (.cl "NoRow")) aNil)))) (fRet (fIf (fTru (fA (isxC is_tab) (aCons (fVar 3) (aCons (fC (.ty "ValueError")) aNil)))) (fTup (aCons (fC (.str "row")) (aCons (fFld ["NoRow"] "row" (fVar 3)) aNil))) (fC .non))) fNop)
    (fRet (fC .non))))))
def b_law_right (c : Nat → List U → Sto → R U) : FS :=
  (fSeq (fSet 3 (f2 ixU (fVar 1) (f1 negU (fC (.int 1)))))
    (fRet (fAndV (f2 eqU (fMeth "Desk" "labels" 1 (c i_Desk_labels) (fVar 0) aNil) (fVal (aComp (aOver lstV (fVal (fA sortedA (aCons (fVar 3) aNil)))) (gN 4) fYes (fTup (aCons (fVar 4) (aCons (f2 ixU (f2 ixU (fVar 3) (fVar 4)) (fC (.int 0))) aNil))) [4]))) (f2 eqU (fMeth "Desk" "deeds" 1 (c i_Desk_deeds) (fVar 0) aNil) (fVar 2)))))
def b_law_several (c : Nat → List U → Sto → R U) : FS :=
  (fSeq (fSet 4 (fLoc (aComp (aRng1 (aCons (fCall 2 (c i_law_draw) (aCons (fVar 0) (aCons (fC (.int 9)) aNil))) aNil)) (gN 10) fYes (fCall 3 (c i_law_desk_row) (aCons (fVar 0) (aCons (fVar 1) (aCons (fVar 2) aNil)))) [10])))
    (fSeq (fIfS (fB (f2 eqU (fCall 2 (c i_law_draw) (aCons (fVar 0) (aCons (fC (.int 3)) aNil))) (fC (.int 0)))) (fExpr (fM "list" insM (fVar 4) (aCons (fCall 2 (c i_law_draw) (aCons (fVar 0) (aCons (f2 addU (fA lenC (aCons (fVar 4) aNil)) (fC (.int 1))) aNil))) (aCons (fCall 2 (c i_law_bad) (aCons (fVar 0) (aCons (fVar 1) aNil))) aNil)))) fNop)
    (fSeq (fSet 5 (fLoc (aLst (aCons (fVar 3) aNil))))
    (fSeq (fSeq (iceV 4) (fFor (aEnumA (aCons (fVar 4) aNil)) (gTup 2 (gCons (gN 6) (gCons (gN 7) gNil))) (fSeq (fIfS (fOr (fNot (fTru (fA isiC (aCons (fVar 7) (aCons (fC (.ty "tuple")) aNil))))) (fB (f2 ninU (fSl (fVar 7) oNone (oSome (fC (.int 1)))) (fVal (aLst (aCons (fTup (aCons (fC (.str "put")) aNil)) (aCons (fTup (aCons (fC (.str "drop")) aNil)) (aCons (fTup (aCons (fC (.str "move")) aNil)) aNil)))))))) (fRet (fTup (aCons (fVar 4) (aCons (fVal (aLst aNil)) (aCons (fTup (aCons (fC (.str "row")) (aCons (fVar 6) aNil))) aNil))))) fNop)
    (fSeq (fSet 8 (fAndV (f2 eqU (fA lenC (aCons (fVar 7) aNil)) (fIf (fB (f2 eqU (f2 ixU (fVar 7) (fC (.int 0))) (fC (.str "put")))) (fC (.int 4)) (fC (.int 2)))) (f2 inU (f2 ixU (fVar 7) (fC (.int 1))) (fVar 1))))
    (fSeq (fIfS (fAnd (fTru (fVar 8)) (fB (f2 eqU (f2 ixU (fVar 7) (fC (.int 0))) (fC (.str "put"))))) (fSeq (fSet 8 (fAndV (f2 inU (f2 ixU (fVar 7) (fC (.int 2))) (fTup (aCons (fC (.str "one")) (aCons (fC (.str "other")) aNil)))) (fA isiC (aCons (f2 ixU (fVar 7) (fC (.int 3))) (aCons (fC (.ty "tuple")) aNil)))))
    (fSet 8 (fAndV (fVar 8) (f2 ninU (f2 ixU (fVar 7) (fC (.int 3))) (fVal (aLst (aCons (fTup (aCons (fC (.str "name")) (aCons (fC (.str "or")) aNil))) (aCons (fTup aNil) (aCons (fTup (aCons (fC (.str "and")) (aCons (fTup (aCons (fC (.str "yes")) aNil)) aNil))) aNil))))))))) fNop)
    (fSeq (fIfS (fNot (fTru (fVar 8))) (fRet (fTup (aCons (fVar 4) (aCons (fVal (aLst aNil)) (aCons (fTup (aCons (fC (.str "row")) (aCons (fVar 6) aNil))) aNil))))) fNop)
    (fSeq (fSet 9 (fCall 2 (c i_law_after) (aCons (f2 ixU (fVar 5) (f1 negU (fC (.int 1)))) (aCons (fVar 7) aNil))))
    (fSeq (fIfS (fB (f2 isU (fVar 9) (fC .non))) (fRet (fTup (aCons (fVar 4) (aCons (fVal (aLst aNil)) (aCons (fTup (aCons (fC (.str "label")) (aCons (f2 ixU (fVar 7) (fC (.int 1))) aNil))) aNil))))) fNop)
    (fExpr (fM "list" appM (fVar 5) (aCons (fVar 9) aNil)))))))))))
    (fRet (fTup (aCons (fVar 4) (aCons (fSl (fVar 5) (oSome (fC (.int 1))) oNone) (aCons (fC .non) aNil)))))))))
def b_law_many (c : Nat → List U → Sto → R U) : FS :=
  (fSeq (fExpr (fMeth "Desk" "put" 4 (c i_Desk_put) (fVar 0) (aCons (fVar 1) (aCons (fC (.str "one")) (aCons (fTup (aCons (fC (.str "yes")) aNil)) aNil)))))
    (fSeq (fFor (aRng1 (aCons (fVar 3) aNil)) (gN 4) (fExpr (fMeth "Desk" "move" 2 (c i_Desk_move) (fVar 0) (aCons (fVar 1) aNil))))
    (fSeq (fIfS (fOr (fB (f2 neU (fMeth "Desk" "labels" 1 (c i_Desk_labels) (fVar 0) aNil) (fVal (aLst (aCons (fTup (aCons (fVar 1) (aCons (f2 ixU (fVal (aLst (aCons (fC (.str "one")) (aCons (fC (.str "other")) aNil)))) (f2 modU (fVar 3) (fC (.int 2)))) aNil))) aNil))))) (fB (f2 neU (fMeth "Desk" "deeds" 1 (c i_Desk_deeds) (fVar 0) aNil) (f2 addU (f2 addU (fVar 2) (fVar 3)) (fC (.int 1)))))) (fRet (fC (.bl false))) fNop)
    (fSeq (fFor (aRng1 (aCons (fVar 3) aNil)) (gN 4) (fSeq (fExpr (fMeth "Desk" "undo" 1 (c i_Desk_undo) (fVar 0) aNil))
    (fIfS (fB (f2 neU (fMeth "Desk" "labels" 1 (c i_Desk_labels) (fVar 0) aNil) (fVal (aLst (aCons (fTup (aCons (fVar 1) (aCons (f2 ixU (fVal (aLst (aCons (fC (.str "one")) (aCons (fC (.str "other")) aNil)))) (f2 modU (f2 subU (f2 subU (fVar 3) (fVar 4)) (fC (.int 1))) (fC (.int 2)))) aNil))) aNil))))) (fRet (fC (.bl false))) fNop)))
    (fSeq (fExpr (fMeth "Desk" "undo" 1 (c i_Desk_undo) (fVar 0) aNil))
    (fRet (fAndV (f2 eqU (fMeth "Desk" "labels" 1 (c i_Desk_labels) (fVar 0) aNil) (fVal (aLst aNil))) (f2 eqU (fCall 3 (c i_law_told) (aCons (fVar 0) (aCons (fC (.str "undo")) (aCons (fTup aNil) aNil)))) (fTup (aCons (fC (.str "label")) (aCons (fC (.str "undo")) aNil)))))))))))
def b_law (c : Nat → List U → Sto → R U) : FS :=
  (fSeq (fSet 1 (fCall 1 (c i_law_tape) (aCons (fVar 0) aNil)))
    (fSeq (fSet 2 (fCall 2 (c i_law_words) (aCons (fVar 1) (aCons (fC (.int 10)) aNil))))
    (fSeq (fSet 3 (fVal (aComp (aRng1 (aCons (fC (.int 6)) aNil)) (gN 9) fYes (fCall 4 (c i_law_saying) (aCons (fVar 1) (aCons (fSl (fVar 2) (oSome (fC (.int 7))) oNone) (aCons (fLoc (aLst (aCons (fC (.int 6)) aNil))) (aCons (fC (.int 6)) aNil))))) [9])))
    (fSeq (fSet 4 (fMake "Desk" 1 (c i_Desk___init__) aNil))
    (fSeq (fSet 5 (fLoc (aLst (aCons (fDval dNew) aNil))))
    (fSeq (fSet 6 (fC (.int 0)))
    (fSeq (fFor (aRng1 (aCons (fCall 2 (c i_law_draw) (aCons (fVar 1) (aCons (fC (.int 41)) aNil))) aNil)) (gN 7) (fSeq (fSet 8 (fCall 2 (c i_law_draw) (aCons (fVar 1) (aCons (fC (.int 6)) aNil))))
    (fSeq (fIfS (fB (f2 eqU (fVar 8) (fC (.int 0)))) (fSeq (fSet 10 (fIf (fB (f2 gtU (fA lenC (aCons (fVar 5) aNil)) (fC (.int 1)))) (fC .non) (fTup (aCons (fC (.str "label")) (aCons (fC (.str "undo")) aNil)))))
    (fSeq (fIfS (fB (f2 neU (fCall 3 (c i_law_told) (aCons (fVar 4) (aCons (fC (.str "undo")) (aCons (fTup aNil) aNil)))) (fVar 10))) (fRet (fC (.bl false))) fNop)
    (fSeq (fSet 6 (f2 addU (fVar 6) (fA intC (aCons (f2 isU (fVar 10) (fC .non)) aNil))))
    (fSet 5 (fLoc (aSl (fVar 5) oNone (oSome (fA maxC (aCons (fC (.int 1)) (aCons (f2 subU (fA lenC (aCons (fVar 5) aNil)) (fC (.int 1))) aNil)))))))))) (fIfS (fB (f2 eqU (fVar 8) (fC (.int 1)))) (fSeq (fAsg (gTup 3 (gCons (gN 11) (gCons (gN 12) (gCons (gN 10) gNil)))) (fCall 4 (c i_law_several) (aCons (fVar 1) (aCons (fSl (fVar 2) oNone (oSome (fC (.int 7)))) (aCons (fVar 3) (aCons (f2 ixU (fVar 5) (f1 negU (fC (.int 1)))) aNil))))))
    (fSeq (fSet 13 (fVal (fA listC (aCons (fVar 11) aNil))))
    (fSeq (fIfS (fOr (fB (f2 neU (fCall 3 (c i_law_told) (aCons (fVar 4) (aCons (fC (.str "several")) (aCons (fVar 11) aNil)))) (fVar 10))) (fB (f2 neU (fVar 11) (fVar 13)))) (fRet (fC (.bl false))) fNop)
    (fSeq (fSet 5 (fLoc (aAdd (fVar 5) (fVar 12))))
    (fSet 6 (f2 addU (fVar 6) (fA lenC (aCons (fVar 12) aNil)))))))) (fSeq (fSet 14 (fCall 3 (c i_law_desk_row) (aCons (fVar 1) (aCons (fSl (fVar 2) oNone (oSome (fC (.int 7)))) (aCons (fVar 3) aNil)))))
    (fSeq (fSet 12 (fCall 2 (c i_law_after) (aCons (f2 ixU (fVar 5) (f1 negU (fC (.int 1)))) (aCons (fVar 14) aNil))))
    (fSeq (fIfS (fB (f2 neU (fCall 3 (c i_law_told) (aCons (fVar 4) (aCons (f2 ixU (fVar 14) (fC (.int 0))) (aCons (fVar 14) aNil)))) (fIf (fB (f2 isU (fVar 12) (fC .non))) (fTup (aCons (fC (.str "label")) (aCons (f2 ixU (fVar 14) (fC (.int 1))) aNil))) (fC .non)))) (fRet (fC (.bl false))) fNop)
    (fSeq (fSet 5 (fLoc (aAdd (fVar 5) (fVal (aComp (aOver lstV (fVal (aLst (aCons (fVar 12) aNil)))) (gN 15) (fB (f2 isnU (fVar 15) (fC .non))) (fVar 15) [15])))))
    (fSet 6 (f2 addU (fVar 6) (fA intC (aCons (f2 isnU (fVar 12) (fC .non)) aNil))))))))))
    (fIfS (fNot (fTru (fCall 3 (c i_law_right) (aCons (fVar 4) (aCons (fVar 5) (aCons (fVar 6) aNil)))))) (fRet (fC (.bl false))) fNop))))
    (fSeq (whileF (fB (f2 gtU (fA lenC (aCons (fVar 5) aNil)) (fC (.int 1)))) (fSeq (fExpr (fM "list" popLM (fVar 5) aNil))
    (fSeq (fSet 6 (f2 addU (fVar 6) (fC (.int 1))))
    (fIfS (fOr (fB (f2 isnU (fCall 3 (c i_law_told) (aCons (fVar 4) (aCons (fC (.str "undo")) (aCons (fTup aNil) aNil)))) (fC .non))) (fNot (fTru (fCall 3 (c i_law_right) (aCons (fVar 4) (aCons (fVar 5) (aCons (fVar 6) aNil))))))) (fRet (fC (.bl false))) fNop))) 1000000)
    (fSeq (fIfS (fB (f2 neU (fCall 3 (c i_law_told) (aCons (fVar 4) (aCons (fC (.str "undo")) (aCons (fTup aNil) aNil)))) (fTup (aCons (fC (.str "label")) (aCons (fC (.str "undo")) aNil))))) (fRet (fC (.bl false))) fNop)
    (fRet (fCall 4 (c i_law_many) (aCons (fVar 4) (aCons (f2 ixU (fVar 2) (fC (.int 0))) (aCons (fVar 6) (aCons (f2 addU (fC (.int 150)) (fCall 2 (c i_law_draw) (aCons (fVar 1) (aCons (fC (.int 100)) aNil)))) aNil)))))))))))))))
def b_Desk___init__ (c : Nat → List U → Sto → R U) : FS :=
  (fSeq (fPutF "Desk" "there" (fVar 0) (fDloc dNew))
    (fSeq (fPutF "Desk" "ahead" (fVar 0) (fLoc (aLst aNil)))
    (fSeq (fPutF "Desk" "many" (fVar 0) (fC (.int 0)))
    (fPutF "Desk" "known" (fVar 0) (fDloc dNew)))))
def b_Desk_note (c : Nat → List U → Sto → R U) : FS :=
  (fSeq (fExpr (fM "list" appM (fGet "Desk" "ahead" (fVar 0)) (aCons (fGet "Desk" "there" (fVar 0)) aNil)))
    (fSeq (fPutF "Desk" "there" (fVar 0) (fVar 1))
    (fSeq (fPutF "Desk" "many" (fVar 0) (f2 addU (fGet "Desk" "many" (fVar 0)) (fC (.int 1))))
    (fPutF "Desk" "known" (fVar 0) (fDloc dNew)))))
def b_Desk_put (c : Nat → List U → Sto → R U) : FS :=
  (fSeq (fIfS (fB (f2 inU (fVar 1) (fGet "Desk" "there" (fVar 0)))) (fRaise "NoLabel" "label" (aCons (fVar 1) aNil)) fNop)
    (fSeq (fSet 4 (fDloc (fA dictC (aCons (fGet "Desk" "there" (fVar 0)) aNil))))
    (fSeq (fStore (fTup (aCons (fVar 2) (aCons (fVar 3) aNil))) (fVar 4) (fVar 1))
    (fExpr (fMeth "Desk" "note" 2 (c i_Desk_note) (fVar 0) (aCons (fVar 4) aNil))))))
def b_Desk_need (c : Nat → List U → Sto → R U) : FS :=
  (fIfS (fB (f2 ninU (fVar 1) (fGet "Desk" "there" (fVar 0)))) (fRaise "NoLabel" "label" (aCons (fVar 1) aNil)) fNop)
def b_Desk_drop (c : Nat → List U → Sto → R U) : FS :=
  (fSeq (fExpr (fMeth "Desk" "need" 2 (c i_Desk_need) (fVar 0) (aCons (fVar 1) aNil)))
    (fExpr (fMeth "Desk" "note" 2 (c i_Desk_note) (fVar 0) (aCons (fDloc (dCompK (fGet "Desk" "there" (fVar 0)) (gN 2) (fB (f2 neU (fVar 2) (fVar 1))) (fVar 2) 2 [2])) aNil))))
def b_Desk_move (c : Nat → List U → Sto → R U) : FS :=
  (fSeq (fExpr (fMeth "Desk" "need" 2 (c i_Desk_need) (fVar 0) (aCons (fVar 1) aNil)))
    (fSeq (fAsg (gTup 2 (gCons (gN 2) (gCons (gN 3) gNil))) (f2 ixU (fGet "Desk" "there" (fVar 0)) (fVar 1)))
    (fSeq (fSet 4 (fDloc (fA dictC (aCons (fGet "Desk" "there" (fVar 0)) aNil))))
    (fSeq (fStore (fTup (aCons (f2 ixU (fC c_SIDES) (f2 subU (fC (.int 1)) (fTixg ["one", "other"] (fVar 2)))) (aCons (fVar 3) aNil))) (fVar 4) (fVar 1))
    (fExpr (fMeth "Desk" "note" 2 (c i_Desk_note) (fVar 0) (aCons (fVar 4) aNil)))))))
def b_Desk_undo (c : Nat → List U → Sto → R U) : FS :=
  (fSeq (fIfS (fB (f2 eqU (fA lenC (aCons (fGet "Desk" "ahead" (fVar 0)) aNil)) (fC (.int 0)))) (fRaise "NoLabel" "label" (aCons (fC (.str "undo")) aNil)) fNop)
    (fSeq (fPutF "Desk" "there" (fVar 0) (fM "list" popLM (fGet "Desk" "ahead" (fVar 0)) aNil))
    (fSeq (fPutF "Desk" "many" (fVar 0) (f2 addU (fGet "Desk" "many" (fVar 0)) (fC (.int 1))))
    (fPutF "Desk" "known" (fVar 0) (fDloc dNew)))))
def b_Desk_deeds (c : Nat → List U → Sto → R U) : FS :=
  (fRet (fGet "Desk" "many" (fVar 0)))
def b_Desk_do (c : Nat → List U → Sto → R U) : FS :=
  (fSeq (fIfS (fNot (fTru (fCall 1 (c i_is_row) (aCons (fVar 1) aNil)))) (fRaise "NoRow" "row" (aCons (fVar 2) aNil)) fNop)
    (fIfS (fB (f2 eqU (f2 ixU (fVar 1) (fC (.int 0))) (fC (.str "put")))) (fExpr (fMeth "Desk" "put" 4 (c i_Desk_put) (fVar 0) (aCons (f2 ixU (fVar 1) (fC (.int 1))) (aCons (f2 ixU (fVar 1) (fC (.int 2))) (aCons (f2 ixU (fVar 1) (fC (.int 3))) aNil))))) (fIfS (fB (f2 eqU (f2 ixU (fVar 1) (fC (.int 0))) (fC (.str "drop")))) (fExpr (fMeth "Desk" "drop" 2 (c i_Desk_drop) (fVar 0) (aCons (f2 ixU (fVar 1) (fC (.int 1))) aNil))) (fExpr (fMeth "Desk" "move" 2 (c i_Desk_move) (fVar 0) (aCons (f2 ixU (fVar 1) (fC (.int 1))) aNil))))))
def b_Desk_several (c : Nat → List U → Sto → R U) : FS :=
  (fSeq (fPar3 2 3 4 (aCons (fGet "Desk" "there" (fVar 0)) (aCons (fGet "Desk" "many" (fVar 0)) (aCons (fLoc (fA listC (aCons (fGet "Desk" "ahead" (fVar 0)) aNil))) aNil))))
    (fSeq (fSet 5 (fC .non))
    (fFin (fSeq (fFor (aEnumA (aCons (fVar 1) aNil)) (gTup 2 (gCons (gN 6) (gCons (gN 7) gNil))) (fExpr (fMeth "Desk" "do" 3 (c i_Desk_do) (fVar 0) (aCons (fVar 7) (aCons (fVar 6) aNil)))))
    (fSet 5 (fC (.bl true)))) (fIfS (fB (f2 isU (fVar 5) (fC .non))) (fSeq (fPutF "Desk" "there" (fVar 0) (fVar 2))
    (fSeq (fPutF "Desk" "many" (fVar 0) (fVar 3))
    (fSeq (fPutF "Desk" "ahead" (fVar 0) (fVar 4))
    (fExpr (fM "dict" dclrM (fGet "Desk" "known" (fVar 0)) aNil))))) fNop))))
def b_Desk_labels (c : Nat → List U → Sto → R U) : FS :=
  (fRet (fVal (aComp (aOver lstV (fVal (fA sortedA (aCons (fGet "Desk" "there" (fVar 0)) aNil)))) (gN 1) fYes (fTup (aCons (fVar 1) (aCons (f2 ixU (f2 ixU (fGet "Desk" "there" (fVar 0)) (fVar 1)) (fC (.int 0))) aNil))) [1])))
def bodies (c : Nat → List U → Sto → R U) : Nat → FS
  | 0 => b_is_word c
  | 1 => b_parts_in c
  | 2 => b_is_saying c
  | 3 => b_is_row c
  | 4 => b_law_tape c
  | 5 => b_law_draw c
  | 6 => b_law_words c
  | 7 => b_law_saying c
  | 8 => b_law_desk_row c
  | 9 => b_law_after c
  | 10 => b_law_bad c
  | 11 => b_law_told c
  | 12 => b_law_right c
  | 13 => b_law_several c
  | 14 => b_law_many c
  | 15 => b_law c
  | 16 => b_Desk___init__ c
  | 17 => b_Desk_note c
  | 18 => b_Desk_put c
  | 19 => b_Desk_need c
  | 20 => b_Desk_drop c
  | 21 => b_Desk_move c
  | 22 => b_Desk_undo c
  | 23 => b_Desk_deeds c
  | 24 => b_Desk_do c
  | 25 => b_Desk_several c
  | 26 => b_Desk_labels c
  | _ => fNever
def slots : Nat → Nat
  | 0 => 2
  | 1 => 5
  | 2 => 1
  | 3 => 1
  | 4 => 1
  | 5 => 9
  | 6 => 11
  | 7 => 7
  | 8 => 5
  | 9 => 5
  | 10 => 4
  | 11 => 5
  | 12 => 5
  | 13 => 11
  | 14 => 5
  | 15 => 16
  | 16 => 1
  | 17 => 2
  | 18 => 5
  | 19 => 2
  | 20 => 3
  | 21 => 5
  | 22 => 1
  | 23 => 1
  | 24 => 3
  | 25 => 8
  | 26 => 2
  | _ => 0
def call : Nat → Nat → List U → Sto → R U
  | 0, _, _, _ => .bad
  | k + 1, i, us, S => runB (bodies (call k) i) (enStart (slots i) us) S
end
set_option maxHeartbeats 0 in
structure Txt (w : World) (K : PySem.W.Frag) (mg : Str → Option Value) where
  a_is_word : Addr
  fd_is_word : FuncData
  F_is_word : Fun K "is_word" "is_word" s_is_word a_is_word fd_is_word
  m_is_word : mg "is_word" = some (.ref a_is_word)
  b_is_word : Binds K fd_is_word ["thing"] []
  a_parts_in : Addr
  fd_parts_in : FuncData
  F_parts_in : Fun K "parts_in" "parts_in" s_parts_in a_parts_in fd_parts_in
  m_parts_in : mg "parts_in" = some (.ref a_parts_in)
  b_parts_in : Binds K fd_parts_in ["thing", "deep"] []
  a_is_saying : Addr
  fd_is_saying : FuncData
  F_is_saying : Fun K "is_saying" "is_saying" s_is_saying a_is_saying fd_is_saying
  m_is_saying : mg "is_saying" = some (.ref a_is_saying)
  b_is_saying : Binds K fd_is_saying ["thing"] []
  a_is_row : Addr
  fd_is_row : FuncData
  F_is_row : Fun K "is_row" "is_row" s_is_row a_is_row fd_is_row
  m_is_row : mg "is_row" = some (.ref a_is_row)
  b_is_row : Binds K fd_is_row ["thing"] []
  a__law_tape : Addr
  fd__law_tape : FuncData
  F__law_tape : Fun K "_law_tape" "_law_tape" s_law_tape a__law_tape fd__law_tape
  m__law_tape : mg "_law_tape" = some (.ref a__law_tape)
  b__law_tape : Binds K fd__law_tape ["_law_script"] []
  a__law_draw : Addr
  fd__law_draw : FuncData
  F__law_draw : Fun K "_law_draw" "_law_draw" s_law_draw a__law_draw fd__law_draw
  m__law_draw : mg "_law_draw" = some (.ref a__law_draw)
  b__law_draw : Binds K fd__law_draw ["_law_tape_here", "_law_many_here"] []
  a__law_words : Addr
  fd__law_words : FuncData
  F__law_words : Fun K "_law_words" "_law_words" s_law_words a__law_words fd__law_words
  m__law_words : mg "_law_words" = some (.ref a__law_words)
  b__law_words : Binds K fd__law_words ["_law_tape_here", "_law_many_here"] []
  a__law_saying : Addr
  fd__law_saying : FuncData
  F__law_saying : Fun K "_law_saying" "_law_saying" s_law_saying a__law_saying fd__law_saying
  m__law_saying : mg "_law_saying" = some (.ref a__law_saying)
  b__law_saying : Binds K fd__law_saying ["_law_tape_here", "_law_names", "_law_left", "_law_deep"] []
  a__law_desk_row : Addr
  fd__law_desk_row : FuncData
  F__law_desk_row : Fun K "_law_desk_row" "_law_desk_row" s_law_desk_row a__law_desk_row fd__law_desk_row
  m__law_desk_row : mg "_law_desk_row" = some (.ref a__law_desk_row)
  b__law_desk_row : Binds K fd__law_desk_row ["_law_tape_here", "_law_labels", "_law_sayings"] []
  a__law_after : Addr
  fd__law_after : FuncData
  F__law_after : Fun K "_law_after" "_law_after" s_law_after a__law_after fd__law_after
  m__law_after : mg "_law_after" = some (.ref a__law_after)
  b__law_after : Binds K fd__law_after ["_law_there", "_law_row"] []
  a__law_bad : Addr
  fd__law_bad : FuncData
  F__law_bad : Fun K "_law_bad" "_law_bad" s_law_bad a__law_bad fd__law_bad
  m__law_bad : mg "_law_bad" = some (.ref a__law_bad)
  b__law_bad : Binds K fd__law_bad ["_law_tape_here", "_law_labels"] []
  a__law_told : Addr
  fd__law_told : FuncData
  F__law_told : Fun K "_law_told" "_law_told" s_law_told a__law_told fd__law_told
  m__law_told : mg "_law_told" = some (.ref a__law_told)
  b__law_told : Binds K fd__law_told ["_law_desk", "_law_word", "_law_row"] []
  a__law_right : Addr
  fd__law_right : FuncData
  F__law_right : Fun K "_law_right" "_law_right" s_law_right a__law_right fd__law_right
  m__law_right : mg "_law_right" = some (.ref a__law_right)
  b__law_right : Binds K fd__law_right ["_law_desk", "_law_states", "_law_many_here"] []
  a__law_several : Addr
  fd__law_several : FuncData
  F__law_several : Fun K "_law_several" "_law_several" s_law_several a__law_several fd__law_several
  m__law_several : mg "_law_several" = some (.ref a__law_several)
  b__law_several : Binds K fd__law_several ["_law_tape_here", "_law_labels", "_law_sayings", "_law_there"] []
  a__law_many : Addr
  fd__law_many : FuncData
  F__law_many : Fun K "_law_many" "_law_many" s_law_many a__law_many fd__law_many
  m__law_many : mg "_law_many" = some (.ref a__law_many)
  b__law_many : Binds K fd__law_many ["_law_desk", "_law_label", "_law_many_here", "_law_more"] []
  a_law : Addr
  fd_law : FuncData
  F_law : Fun K "law" "law" s_law a_law fd_law
  m_law : mg "law" = some (.ref a_law)
  b_law : Binds K fd_law ["_law_script"] []
  a_Desk___init__ : Addr
  fd_Desk___init__ : FuncData
  F_Desk___init__ : Fun K "__init__" "Desk.__init__" s_Desk___init__ a_Desk___init__ fd_Desk___init__
  b_Desk___init__ : Binds K fd_Desk___init__ ["self"] []
  a_Desk_note : Addr
  fd_Desk_note : FuncData
  F_Desk_note : Fun K "note" "Desk.note" s_Desk_note a_Desk_note fd_Desk_note
  b_Desk_note : Binds K fd_Desk_note ["self", "there"] []
  a_Desk_put : Addr
  fd_Desk_put : FuncData
  F_Desk_put : Fun K "put" "Desk.put" s_Desk_put a_Desk_put fd_Desk_put
  b_Desk_put : Binds K fd_Desk_put ["self", "label", "side", "saying"] []
  a_Desk_need : Addr
  fd_Desk_need : FuncData
  F_Desk_need : Fun K "need" "Desk.need" s_Desk_need a_Desk_need fd_Desk_need
  b_Desk_need : Binds K fd_Desk_need ["self", "label"] []
  a_Desk_drop : Addr
  fd_Desk_drop : FuncData
  F_Desk_drop : Fun K "drop" "Desk.drop" s_Desk_drop a_Desk_drop fd_Desk_drop
  b_Desk_drop : Binds K fd_Desk_drop ["self", "label"] []
  a_Desk_move : Addr
  fd_Desk_move : FuncData
  F_Desk_move : Fun K "move" "Desk.move" s_Desk_move a_Desk_move fd_Desk_move
  b_Desk_move : Binds K fd_Desk_move ["self", "label"] []
  a_Desk_undo : Addr
  fd_Desk_undo : FuncData
  F_Desk_undo : Fun K "undo" "Desk.undo" s_Desk_undo a_Desk_undo fd_Desk_undo
  b_Desk_undo : Binds K fd_Desk_undo ["self"] []
  a_Desk_deeds : Addr
  fd_Desk_deeds : FuncData
  F_Desk_deeds : Fun K "deeds" "Desk.deeds" s_Desk_deeds a_Desk_deeds fd_Desk_deeds
  b_Desk_deeds : Binds K fd_Desk_deeds ["self"] []
  a_Desk_do : Addr
  fd_Desk_do : FuncData
  F_Desk_do : Fun K "do" "Desk.do" s_Desk_do a_Desk_do fd_Desk_do
  b_Desk_do : Binds K fd_Desk_do ["self", "row", "at"] []
  a_Desk_several : Addr
  fd_Desk_several : FuncData
  F_Desk_several : Fun K "several" "Desk.several" s_Desk_several a_Desk_several fd_Desk_several
  b_Desk_several : Binds K fd_Desk_several ["self", "rows"] []
  a_Desk_labels : Addr
  fd_Desk_labels : FuncData
  F_Desk_labels : Fun K "labels" "Desk.labels" s_Desk_labels a_Desk_labels fd_Desk_labels
  b_Desk_labels : Binds K fd_Desk_labels ["self"] []
  C_Desk : Addr
  mc_Desk : mg "Desk" = some (.ref C_Desk)
  cl_Desk : Cls K C_Desk
  mk_Desk : Mk K C_Desk a_Desk___init__
  me_Desk_note : Meth K C_Desk "note" a_Desk_note
  me_Desk_put : Meth K C_Desk "put" a_Desk_put
  me_Desk_need : Meth K C_Desk "need" a_Desk_need
  me_Desk_drop : Meth K C_Desk "drop" a_Desk_drop
  me_Desk_move : Meth K C_Desk "move" a_Desk_move
  me_Desk_undo : Meth K C_Desk "undo" a_Desk_undo
  me_Desk_deeds : Meth K C_Desk "deeds" a_Desk_deeds
  me_Desk_do : Meth K C_Desk "do" a_Desk_do
  me_Desk_several : Meth K C_Desk "several" a_Desk_several
  me_Desk_labels : Meth K C_Desk "labels" a_Desk_labels
  na_Desk_ahead : NoAttr K C_Desk "ahead"
  na_Desk_known : NoAttr K C_Desk "known"
  na_Desk_many : NoAttr K C_Desk "many"
  na_Desk_there : NoAttr K C_Desk "there"
  k_DEEPEST : Value
  y_DEEPEST : V
  m_DEEPEST : mg "DEEPEST" = some k_DEEPEST
  r_DEEPEST : RelV y_DEEPEST k_DEEPEST
  v_DEEPEST : ∀ {P : Program} {z : World} {e : Wd}, VR ⟨K, mg, P, z⟩ e c_DEEPEST y_DEEPEST
  k_LETTERS : Value
  y_LETTERS : V
  m_LETTERS : mg "LETTERS" = some k_LETTERS
  r_LETTERS : RelV y_LETTERS k_LETTERS
  v_LETTERS : ∀ {P : Program} {z : World} {e : Wd}, VR ⟨K, mg, P, z⟩ e c_LETTERS y_LETTERS
  k_LONGEST_WORD : Value
  y_LONGEST_WORD : V
  m_LONGEST_WORD : mg "LONGEST_WORD" = some k_LONGEST_WORD
  r_LONGEST_WORD : RelV y_LONGEST_WORD k_LONGEST_WORD
  v_LONGEST_WORD : ∀ {P : Program} {z : World} {e : Wd}, VR ⟨K, mg, P, z⟩ e c_LONGEST_WORD y_LONGEST_WORD
  a_MANY : Addr
  m_MANY : mg "MANY" = some (.ref a_MANY)
  d_MANY : KTab K w a_MANY t_MANY
  k_MOST_PARTS : Value
  y_MOST_PARTS : V
  m_MOST_PARTS : mg "MOST_PARTS" = some k_MOST_PARTS
  r_MOST_PARTS : RelV y_MOST_PARTS k_MOST_PARTS
  v_MOST_PARTS : ∀ {P : Program} {z : World} {e : Wd}, VR ⟨K, mg, P, z⟩ e c_MOST_PARTS y_MOST_PARTS
  k_SIDES : Value
  y_SIDES : V
  m_SIDES : mg "SIDES" = some k_SIDES
  r_SIDES : RelV y_SIDES k_SIDES
  v_SIDES : ∀ {P : Program} {z : World} {e : Wd}, VR ⟨K, mg, P, z⟩ e c_SIDES y_SIDES
  td_SIDES : ∃ a, k_SIDES = .ref a ∧ TupF K a ["one", "other"]
  k_WORDS_OF_TEXTS : Value
  y_WORDS_OF_TEXTS : V
  m_WORDS_OF_TEXTS : mg "WORDS_OF_TEXTS" = some k_WORDS_OF_TEXTS
  r_WORDS_OF_TEXTS : RelV y_WORDS_OF_TEXTS k_WORDS_OF_TEXTS
  v_WORDS_OF_TEXTS : ∀ {P : Program} {z : World} {e : Wd}, VR ⟨K, mg, P, z⟩ e c_WORDS_OF_TEXTS y_WORDS_OF_TEXTS
  C_NoRow : Addr
  I_NoRow : Addr
  fi_NoRow : FuncData
  x_NoRow : XC K mg "NoRow" "row" "row" C_NoRow I_NoRow fi_NoRow sx_NoRow "ValueError.__new__" [.type "ValueError", .type "Exception", .type "BaseException", .type "object"]
  C_NoLabel : Addr
  I_NoLabel : Addr
  fi_NoLabel : FuncData
  x_NoLabel : XC K mg "NoLabel" "label" "label" C_NoLabel I_NoLabel fi_NoLabel sx_NoLabel "LookupError.__new__" [.type "KeyError", .type "LookupError", .type "Exception", .type "BaseException", .type "object"]
  vb_KeyError : PySem.W.findCls K (.type "KeyError") (.type "type") "__init__" = some (.val (.builtin "KeyError.__init__"))
  vb_ValueError : PySem.W.findCls K (.type "ValueError") (.type "type") "__init__" = some (.val (.builtin "ValueError.__init__"))
  en_NoLabel : enB K C_NoLabel = true
  en_NoRow : enB K C_NoRow = true
  kit : isB K (kO C_NoRow C_NoLabel false :: (kT C_NoRow "KeyError" false :: (kO C_NoRow C_NoRow true :: (kT C_NoRow "ValueError" true :: (kO C_NoLabel C_NoLabel true :: (kT C_NoLabel "KeyError" true :: (kO C_NoLabel C_NoRow false :: (kT C_NoLabel "ValueError" false :: ([]))))))))) = true
  cat_NoLabel : exB K (.ref C_NoLabel) [(C_NoRow, false), (C_NoLabel, true)] = true
  cat_NoRow : exB K (.ref C_NoRow) [(C_NoRow, true), (C_NoLabel, false)] = true
  z_KeyError : mg "KeyError" = none
  z_ValueError : mg "ValueError" = none
  z_all : mg "all" = none
  z_dict : mg "dict" = none
  z_enumerate : mg "enumerate" = none
  z_int : mg "int" = none
  z_isinstance : mg "isinstance" = none
  z_len : mg "len" = none
  z_list : mg "list" = none
  z_max : mg "max" = none
  z_min : mg "min" = none
  z_range : mg "range" = none
  z_sorted : mg "sorted" = none
  z_str : mg "str" = none
  z_tuple : mg "tuple" = none
section
variable {P : Program} {w : World} {K : PySem.W.Frag} {mg : Str → Option Value} {base : Heap}
theorem xi_NoRow (T : Txt w K mg) : FnOk P w K mg base (L2.CX P w) 1 T.I_NoRow T.fi_NoRow ["self", "row"] (spI T.C_NoRow "row") := by
  refine T.x_NoRow.fi.okX scx_NoRow (fun vs H Q E h => ?_) fun cdv A outer s H vs Q E hr h => ?_
  · obtain ⟨a, y, rfl, _⟩ := h; rfl
  · refine ⟨_, pss_cons (ps_expr (pe_binit bx_ValueError T.x_NoRow.ox rfl T.z_ValueError T.vb_ValueError (pa_cons (pv 0) (pa_cons pe_str pa_nil)))) (pss_one (ps_oset bx_ValueError T.x_NoRow.ox T.x_NoRow.nf (pv 0) (pv 1))), ?_⟩
    obtain ⟨a, y, rfl, ha, q⟩ := h
    exact ⟨.ref a, rfl, a, _, rfl, (by show 1 ≤ 1000; decide), ha, y, rfl, .ref a, rfl, a, rfl, ha, fun dx n ne => q dx n ne⟩
theorem xk_NoRow (T : Txt w K mg) : ExcOk P w K mg base 1 "NoRow" "row" := ⟨T.C_NoRow, T.I_NoRow, "row", T.fi_NoRow, "ValueError", "ValueError", "ValueError.__new__", "ValueError.__init__", _, bx_ValueError, T.x_NoRow.ox, T.x_NoRow.ic, T.x_NoRow.ti, xi_NoRow T, T.x_NoRow.bi, T.x_NoRow.mc⟩
theorem xi_NoLabel (T : Txt w K mg) : FnOk P w K mg base (L2.CX P w) 1 T.I_NoLabel T.fi_NoLabel ["self", "label"] (spI T.C_NoLabel "label") := by
  refine T.x_NoLabel.fi.okX scx_NoLabel (fun vs H Q E h => ?_) fun cdv A outer s H vs Q E hr h => ?_
  · obtain ⟨a, y, rfl, _⟩ := h; rfl
  · refine ⟨_, pss_cons (ps_expr (pe_binit bx_KeyError T.x_NoLabel.ox rfl T.z_KeyError T.vb_KeyError (pa_cons (pv 0) (pa_cons pe_str pa_nil)))) (pss_one (ps_oset bx_KeyError T.x_NoLabel.ox T.x_NoLabel.nf (pv 0) (pv 1))), ?_⟩
    obtain ⟨a, y, rfl, ha, q⟩ := h
    exact ⟨.ref a, rfl, a, _, rfl, (by show 1 ≤ 1000; decide), ha, y, rfl, .ref a, rfl, a, rfl, ha, fun dx n ne => q dx n ne⟩
theorem xk_NoLabel (T : Txt w K mg) : ExcOk P w K mg base 1 "NoLabel" "label" := ⟨T.C_NoLabel, T.I_NoLabel, "label", T.fi_NoLabel, "KeyError", "LookupError", "LookupError.__new__", "KeyError.__init__", _, bx_KeyError, T.x_NoLabel.ox, T.x_NoLabel.ic, T.x_NoLabel.ti, xi_NoLabel T, T.x_NoLabel.bi, T.x_NoLabel.mc⟩
theorem fld_label (T : Txt w K mg) : ∀ c ∈ (["NoLabel"] : List Str), ∀ C, mg c = some (.ref C) → XfC K C ∧ PySem.W.findIn K (.ref C) "label" = some none := by
  intro c hc C hm
  simp only [List.mem_cons, List.mem_nil_iff, or_false] at hc
  rcases hc with rfl
  · have e := T.x_NoLabel.mc.symm.trans hm; cases e; exact ⟨T.x_NoLabel.xf, T.x_NoLabel.nf⟩
theorem fld_row (T : Txt w K mg) : ∀ c ∈ (["NoRow"] : List Str), ∀ C, mg c = some (.ref C) → XfC K C ∧ PySem.W.findIn K (.ref C) "row" = some none := by
  intro c hc C hm
  simp only [List.mem_cons, List.mem_nil_iff, or_false] at hc
  rcases hc with rfl
  · have e := T.x_NoRow.mc.symm.trans hm; cases e; exact ⟨T.x_NoRow.xf, T.x_NoRow.nf⟩
theorem is_ok (T : Txt w K mg) : IsOk K mg is_tab := (IsOk.o T.x_NoRow.mc T.x_NoLabel.mc T.x_NoRow.ec
  (IsOk.t T.x_NoRow.mc T.x_NoRow.ec
  (IsOk.o T.x_NoRow.mc T.x_NoRow.mc T.x_NoRow.ec
  (IsOk.t T.x_NoRow.mc T.x_NoRow.ec
  (IsOk.o T.x_NoLabel.mc T.x_NoLabel.mc T.x_NoLabel.ec
  (IsOk.t T.x_NoLabel.mc T.x_NoLabel.ec
  (IsOk.o T.x_NoLabel.mc T.x_NoRow.mc T.x_NoLabel.ec
  (IsOk.t T.x_NoLabel.mc T.x_NoLabel.ec
  IsOk.n)))))))) T.kit
theorem exk_NoLabel (T : Txt w K mg) : ExOk K mg (.ref T.C_NoLabel) (lookM ex_NoLabel) := (ExOk.o T.x_NoRow.mc (ExOk.o T.x_NoLabel.mc ExOk.n)) T.cat_NoLabel
theorem exk_NoRow (T : Txt w K mg) : ExOk K mg (.ref T.C_NoRow) (lookM ex_NoRow) := (ExOk.o T.x_NoRow.mc (ExOk.o T.x_NoLabel.mc ExOk.n)) T.cat_NoRow
set_option maxHeartbeats 0 in
structure Oks (P : Program) (base : Heap) (T : Txt w K mg) (k : Nat) : Prop where
  o_is_word : FnOk P w K mg base (L2.CX P w) (2 * k + 2) T.a_is_word T.fd_is_word ["thing"] (spOf ⟨K, mg, P, w⟩ 1 (call k i_is_word))
  o_parts_in : FnOk P w K mg base (L2.CX P w) (2 * k + 2) T.a_parts_in T.fd_parts_in ["thing", "deep"] (spOf ⟨K, mg, P, w⟩ 2 (call k i_parts_in))
  o_is_saying : FnOk P w K mg base (L2.CX P w) (2 * k + 2) T.a_is_saying T.fd_is_saying ["thing"] (spOf ⟨K, mg, P, w⟩ 1 (call k i_is_saying))
  o_is_row : FnOk P w K mg base (L2.CX P w) (2 * k + 2) T.a_is_row T.fd_is_row ["thing"] (spOf ⟨K, mg, P, w⟩ 1 (call k i_is_row))
  o__law_tape : FnOk P w K mg base (L2.CX P w) (2 * k + 2) T.a__law_tape T.fd__law_tape ["_law_script"] (spOf ⟨K, mg, P, w⟩ 1 (call k i_law_tape))
  o__law_draw : FnOk P w K mg base (L2.CX P w) (2 * k + 2) T.a__law_draw T.fd__law_draw ["_law_tape_here", "_law_many_here"] (spOf ⟨K, mg, P, w⟩ 2 (call k i_law_draw))
  o__law_words : FnOk P w K mg base (L2.CX P w) (2 * k + 2) T.a__law_words T.fd__law_words ["_law_tape_here", "_law_many_here"] (spOf ⟨K, mg, P, w⟩ 2 (call k i_law_words))
  o__law_saying : FnOk P w K mg base (L2.CX P w) (2 * k + 2) T.a__law_saying T.fd__law_saying ["_law_tape_here", "_law_names", "_law_left", "_law_deep"] (spOf ⟨K, mg, P, w⟩ 4 (call k i_law_saying))
  o__law_desk_row : FnOk P w K mg base (L2.CX P w) (2 * k + 2) T.a__law_desk_row T.fd__law_desk_row ["_law_tape_here", "_law_labels", "_law_sayings"] (spOf ⟨K, mg, P, w⟩ 3 (call k i_law_desk_row))
  o__law_after : FnOk P w K mg base (L2.CX P w) (2 * k + 2) T.a__law_after T.fd__law_after ["_law_there", "_law_row"] (spOf ⟨K, mg, P, w⟩ 2 (call k i_law_after))
  o__law_bad : FnOk P w K mg base (L2.CX P w) (2 * k + 2) T.a__law_bad T.fd__law_bad ["_law_tape_here", "_law_labels"] (spOf ⟨K, mg, P, w⟩ 2 (call k i_law_bad))
  o__law_told : FnOk P w K mg base (L2.CX P w) (2 * k + 2) T.a__law_told T.fd__law_told ["_law_desk", "_law_word", "_law_row"] (spOf ⟨K, mg, P, w⟩ 3 (call k i_law_told))
  o__law_right : FnOk P w K mg base (L2.CX P w) (2 * k + 2) T.a__law_right T.fd__law_right ["_law_desk", "_law_states", "_law_many_here"] (spOf ⟨K, mg, P, w⟩ 3 (call k i_law_right))
  o__law_several : FnOk P w K mg base (L2.CX P w) (2 * k + 2) T.a__law_several T.fd__law_several ["_law_tape_here", "_law_labels", "_law_sayings", "_law_there"] (spOf ⟨K, mg, P, w⟩ 4 (call k i_law_several))
  o__law_many : FnOk P w K mg base (L2.CX P w) (2 * k + 2) T.a__law_many T.fd__law_many ["_law_desk", "_law_label", "_law_many_here", "_law_more"] (spOf ⟨K, mg, P, w⟩ 4 (call k i_law_many))
  o_law : FnOk P w K mg base (L2.CX P w) (2 * k + 2) T.a_law T.fd_law ["_law_script"] (spOf ⟨K, mg, P, w⟩ 1 (call k i_law))
  o_Desk___init__ : FnOk P w K mg base (L2.CX P w) (2 * k + 2) T.a_Desk___init__ T.fd_Desk___init__ ["self"] (spOf ⟨K, mg, P, w⟩ 1 (call k i_Desk___init__))
  o_Desk_note : FnOk P w K mg base (L2.CX P w) (2 * k + 2) T.a_Desk_note T.fd_Desk_note ["self", "there"] (spOf ⟨K, mg, P, w⟩ 2 (call k i_Desk_note))
  o_Desk_put : FnOk P w K mg base (L2.CX P w) (2 * k + 2) T.a_Desk_put T.fd_Desk_put ["self", "label", "side", "saying"] (spOf ⟨K, mg, P, w⟩ 4 (call k i_Desk_put))
  o_Desk_need : FnOk P w K mg base (L2.CX P w) (2 * k + 2) T.a_Desk_need T.fd_Desk_need ["self", "label"] (spOf ⟨K, mg, P, w⟩ 2 (call k i_Desk_need))
  o_Desk_drop : FnOk P w K mg base (L2.CX P w) (2 * k + 2) T.a_Desk_drop T.fd_Desk_drop ["self", "label"] (spOf ⟨K, mg, P, w⟩ 2 (call k i_Desk_drop))
  o_Desk_move : FnOk P w K mg base (L2.CX P w) (2 * k + 2) T.a_Desk_move T.fd_Desk_move ["self", "label"] (spOf ⟨K, mg, P, w⟩ 2 (call k i_Desk_move))
  o_Desk_undo : FnOk P w K mg base (L2.CX P w) (2 * k + 2) T.a_Desk_undo T.fd_Desk_undo ["self"] (spOf ⟨K, mg, P, w⟩ 1 (call k i_Desk_undo))
  o_Desk_deeds : FnOk P w K mg base (L2.CX P w) (2 * k + 2) T.a_Desk_deeds T.fd_Desk_deeds ["self"] (spOf ⟨K, mg, P, w⟩ 1 (call k i_Desk_deeds))
  o_Desk_do : FnOk P w K mg base (L2.CX P w) (2 * k + 2) T.a_Desk_do T.fd_Desk_do ["self", "row", "at"] (spOf ⟨K, mg, P, w⟩ 3 (call k i_Desk_do))
  o_Desk_several : FnOk P w K mg base (L2.CX P w) (2 * k + 2) T.a_Desk_several T.fd_Desk_several ["self", "rows"] (spOf ⟨K, mg, P, w⟩ 2 (call k i_Desk_several))
  o_Desk_labels : FnOk P w K mg base (L2.CX P w) (2 * k + 2) T.a_Desk_labels T.fd_Desk_labels ["self"] (spOf ⟨K, mg, P, w⟩ 1 (call k i_Desk_labels))
set_option maxHeartbeats 4000000 in
theorem sim_is_word {k : Nat} (T : Txt w K mg) (O : Oks P base T k) (cdv : Value) (A : Around) (outer : List Env) (s : Shared) (H : Hp) (E : XK) (hr : Room (2 * k + 3) (A.deeper (PyProof.Rows.envOfC "is_word" (defScope s_is_word) s.heap.objs.size T.a_is_word cdv))) :
    SimB (cxOf (L2.CX P w) P w K mg base n_is_word "is_word" (defScope s_is_word) T.a_is_word cdv A outer s H E) (fun cls d _ H2 => E cls d H2) (defBody s_is_word) (b_is_word (call k)) := by
  have nd := sc_is_word.nd
  have hk : Room (2 * k + 2) (A.deeper (PyProof.Rows.envOfC "is_word" (defScope s_is_word) s.heap.objs.size T.a_is_word cdv)) := hr.mono (by omega)
  have hu66 := hr.un
  have hu64 : (A.deeper (PyProof.Rows.envOfC "is_word" (defScope s_is_word) s.heap.objs.size T.a_is_word cdv)).units + 64 < cLine := by omega
  have hu1 : (A.deeper (PyProof.Rows.envOfC "is_word" (defScope s_is_word) s.heap.objs.size T.a_is_word cdv)).units + 1 < cLine := by omega
  have hu67 : (A.deeper (PyProof.Rows.envOfC "is_word" (defScope s_is_word) s.heap.objs.size T.a_is_word cdv)).units + 67 < cLine := by omega
  replace hu66 : (A.deeper (PyProof.Rows.envOfC "is_word" (defScope s_is_word) s.heap.objs.size T.a_is_word cdv)).units + 66 < cLine := by omega
  exact (sb_cons (ss_if (SimW.t (sw_or (st_not (st_val (se_callB cs_isi rfl T.z_isinstance (by decide +kernel) (sa_cons (se_var 0) (sa_cons (se_ty "str" rfl T.z_str (by decide +kernel)) sa_nil))))) (sw_or1 (st_not (st_chain os_le noX_le os_le noX_le se_int (se_callB cs_len rfl T.z_len (by decide +kernel) (sa_cons (se_var 0) sa_nil)) (se_glob rfl T.m_LONGEST_WORD T.r_LONGEST_WORD (fun _ => T.v_LONGEST_WORD))))))) (sb_one (ss_ret se_bl)) sb_nil)
    (sb_one (ss_ret (se_and (se_callB (cs_all rfl) rfl T.z_all (by decide +kernel) (sa_cons (SimL.val (sl_comp rfl nd (si_str (se_var 0)) (blkOk_by (own := [("sign", 1)]) (N := n_is_word) (sc := defScope s_is_word) (by decide +kernel)) (fun _ _ _ _ _ => (sg_name 1 nd rfl (by first | exact Or.inl rfl | exact Or.inr rfl))) (fun _ _ _ _ _ => ts_nil) (fun _ _ _ _ _ => (se_cmp (os_in hu66) noX_in (se_var 1) (se_glob rfl T.m_LETTERS T.r_LETTERS (fun _ => T.v_LETTERS)) (by rfl))))) sa_nil)) (se_one (se_cmp (os_nin hu66) noX_nin (se_var 0) (se_glob rfl T.m_WORDS_OF_TEXTS T.r_WORDS_OF_TEXTS (fun _ => T.v_WORDS_OF_TEXTS)) (by rfl)))))))
set_option maxHeartbeats 4000000 in
theorem sim_parts_in {k : Nat} (T : Txt w K mg) (O : Oks P base T k) (cdv : Value) (A : Around) (outer : List Env) (s : Shared) (H : Hp) (E : XK) (hr : Room (2 * k + 3) (A.deeper (PyProof.Rows.envOfC "parts_in" (defScope s_parts_in) s.heap.objs.size T.a_parts_in cdv))) :
    SimB (cxOf (L2.CX P w) P w K mg base n_parts_in "parts_in" (defScope s_parts_in) T.a_parts_in cdv A outer s H E) (fun cls d _ H2 => E cls d H2) (defBody s_parts_in) (b_parts_in (call k)) := by
  have nd := sc_parts_in.nd
  have hk : Room (2 * k + 2) (A.deeper (PyProof.Rows.envOfC "parts_in" (defScope s_parts_in) s.heap.objs.size T.a_parts_in cdv)) := hr.mono (by omega)
  have hu66 := hr.un
  have hu64 : (A.deeper (PyProof.Rows.envOfC "parts_in" (defScope s_parts_in) s.heap.objs.size T.a_parts_in cdv)).units + 64 < cLine := by omega
  have hu1 : (A.deeper (PyProof.Rows.envOfC "parts_in" (defScope s_parts_in) s.heap.objs.size T.a_parts_in cdv)).units + 1 < cLine := by omega
  have hu67 : (A.deeper (PyProof.Rows.envOfC "parts_in" (defScope s_parts_in) s.heap.objs.size T.a_parts_in cdv)).units + 67 < cLine := by omega
  replace hu66 : (A.deeper (PyProof.Rows.envOfC "parts_in" (defScope s_parts_in) s.heap.objs.size T.a_parts_in cdv)).units + 66 < cLine := by omega
  exact (sb_cons (ss_if (SimW.t (sw_or (st_cmp os_gt noX_gt (se_var 1) (se_glob rfl T.m_DEEPEST T.r_DEEPEST (fun _ => T.v_DEEPEST)) (nomark _)) (sw_or (st_not (st_val (se_callB cs_isi rfl T.z_isinstance (by decide +kernel) (sa_cons (se_var 0) (sa_cons (se_ty "tuple" rfl T.z_tuple (by decide +kernel)) sa_nil))))) (sw_or (st_cmp os_lt noX_lt (se_callB cs_len rfl T.z_len (by decide +kernel) (sa_cons (se_var 0) sa_nil)) se_int (nomark _)) (sw_or1 (st_not (st_val (se_callB cs_isi rfl T.z_isinstance (by decide +kernel) (sa_cons (se_ix hu1 (se_var 0) se_int) (sa_cons (se_ty "str" rfl T.z_str (by decide +kernel)) sa_nil)))))))))) (sb_one (ss_ret (se_op os_add noX_add (se_glob rfl T.m_MOST_PARTS T.r_MOST_PARTS (fun _ => T.v_MOST_PARTS)) se_int))) sb_nil)
    (sb_cons (ss_if (st_cmp (os_eq hu64) noX_eq (se_ix hu1 (se_var 0) se_int) se_str (nomark _)) (sb_one (ss_ret (se_if (SimW.t (sw_and (st_cmp (os_eq hu64) noX_eq (se_callB cs_len rfl T.z_len (by decide +kernel) (sa_cons (se_var 0) sa_nil)) se_int (nomark _)) (sw_and1 (st_val (se_call (O.o_is_word) hk (pas_of (takes_of rfl rfl rfl rfl)) rfl T.m_is_word T.F_is_word.kp T.b_is_word (sa_cons (se_ix hu1 (se_var 0) se_int) sa_nil)))))) se_int (se_op os_add noX_add (se_glob rfl T.m_MOST_PARTS T.r_MOST_PARTS (fun _ => T.v_MOST_PARTS)) se_int)))) sb_nil)
    (sb_cons (ss_set 2 nd rfl (by first | exact Or.inl rfl | exact Or.inr rfl) (se_wget T.d_MANY rfl T.m_MANY (se_ix hu1 (se_var 0) se_int)))
    (sb_cons (ss_if (SimW.t (sw_or (st_cmp os_is noX_is (se_var 2) se_non (nomark _)) (sw_or1 (st_cmp (os_ne hu64) noX_ne (se_callB cs_len rfl T.z_len (by decide +kernel) (sa_cons (se_var 0) sa_nil)) (se_op os_add noX_add se_int (se_var 2)) (nomark _))))) (sb_one (ss_ret (se_op os_add noX_add (se_glob rfl T.m_MOST_PARTS T.r_MOST_PARTS (fun _ => T.v_MOST_PARTS)) se_int))) sb_nil)
    (sb_cons (ss_set 3 nd rfl (by first | exact Or.inl rfl | exact Or.inr rfl) se_int)
    (sb_cons (ss_for (passes_of rfl) rfl (si_tup (se_slice (se_var 0) (so_some se_int) so_none)) (sg_name 4 nd rfl (by first | exact Or.inl rfl | exact Or.inr rfl)) (sb_cons (ss_set 3 nd rfl (by first | exact Or.inl rfl | exact Or.inr rfl) (se_op os_add noX_add (se_var 3) (se_call (O.o_parts_in) hk (pas_of (takes_of rfl rfl rfl rfl)) rfl T.m_parts_in T.F_parts_in.kp T.b_parts_in (sa_cons (se_var 4) (sa_cons (se_op os_add noX_add (se_var 1) se_int) sa_nil)))))
    (sb_one (ss_if (st_cmp os_gt noX_gt (se_var 3) (se_glob rfl T.m_MOST_PARTS T.r_MOST_PARTS (fun _ => T.v_MOST_PARTS)) (nomark _)) (sb_one (ss_ret (se_var 3))) sb_nil))))
    (sb_one (ss_ret (se_var 3)))))))))
set_option maxHeartbeats 4000000 in
theorem sim_is_saying {k : Nat} (T : Txt w K mg) (O : Oks P base T k) (cdv : Value) (A : Around) (outer : List Env) (s : Shared) (H : Hp) (E : XK) (hr : Room (2 * k + 3) (A.deeper (PyProof.Rows.envOfC "is_saying" (defScope s_is_saying) s.heap.objs.size T.a_is_saying cdv))) :
    SimB (cxOf (L2.CX P w) P w K mg base n_is_saying "is_saying" (defScope s_is_saying) T.a_is_saying cdv A outer s H E) (fun cls d _ H2 => E cls d H2) (defBody s_is_saying) (b_is_saying (call k)) := by
  have nd := sc_is_saying.nd
  have hk : Room (2 * k + 2) (A.deeper (PyProof.Rows.envOfC "is_saying" (defScope s_is_saying) s.heap.objs.size T.a_is_saying cdv)) := hr.mono (by omega)
  have hu66 := hr.un
  have hu64 : (A.deeper (PyProof.Rows.envOfC "is_saying" (defScope s_is_saying) s.heap.objs.size T.a_is_saying cdv)).units + 64 < cLine := by omega
  have hu1 : (A.deeper (PyProof.Rows.envOfC "is_saying" (defScope s_is_saying) s.heap.objs.size T.a_is_saying cdv)).units + 1 < cLine := by omega
  have hu67 : (A.deeper (PyProof.Rows.envOfC "is_saying" (defScope s_is_saying) s.heap.objs.size T.a_is_saying cdv)).units + 67 < cLine := by omega
  replace hu66 : (A.deeper (PyProof.Rows.envOfC "is_saying" (defScope s_is_saying) s.heap.objs.size T.a_is_saying cdv)).units + 66 < cLine := by omega
  exact (sb_one (ss_ret (se_cmp os_le noX_le (se_call (O.o_parts_in) hk (pas_of (takes_of rfl rfl rfl rfl)) rfl T.m_parts_in T.F_parts_in.kp T.b_parts_in (sa_cons (se_var 0) (sa_cons se_int sa_nil))) (se_glob rfl T.m_MOST_PARTS T.r_MOST_PARTS (fun _ => T.v_MOST_PARTS)) (nomark _))))
set_option maxHeartbeats 4000000 in
theorem sim_is_row {k : Nat} (T : Txt w K mg) (O : Oks P base T k) (cdv : Value) (A : Around) (outer : List Env) (s : Shared) (H : Hp) (E : XK) (hr : Room (2 * k + 3) (A.deeper (PyProof.Rows.envOfC "is_row" (defScope s_is_row) s.heap.objs.size T.a_is_row cdv))) :
    SimB (cxOf (L2.CX P w) P w K mg base n_is_row "is_row" (defScope s_is_row) T.a_is_row cdv A outer s H E) (fun cls d _ H2 => E cls d H2) (defBody s_is_row) (b_is_row (call k)) := by
  have nd := sc_is_row.nd
  have hk : Room (2 * k + 2) (A.deeper (PyProof.Rows.envOfC "is_row" (defScope s_is_row) s.heap.objs.size T.a_is_row cdv)) := hr.mono (by omega)
  have hu66 := hr.un
  have hu64 : (A.deeper (PyProof.Rows.envOfC "is_row" (defScope s_is_row) s.heap.objs.size T.a_is_row cdv)).units + 64 < cLine := by omega
  have hu1 : (A.deeper (PyProof.Rows.envOfC "is_row" (defScope s_is_row) s.heap.objs.size T.a_is_row cdv)).units + 1 < cLine := by omega
  have hu67 : (A.deeper (PyProof.Rows.envOfC "is_row" (defScope s_is_row) s.heap.objs.size T.a_is_row cdv)).units + 67 < cLine := by omega
  replace hu66 : (A.deeper (PyProof.Rows.envOfC "is_row" (defScope s_is_row) s.heap.objs.size T.a_is_row cdv)).units + 66 < cLine := by omega
  exact (sb_cons (ss_if (SimW.t (sw_or (st_not (st_val (se_callB cs_isi rfl T.z_isinstance (by decide +kernel) (sa_cons (se_var 0) (sa_cons (se_ty "tuple" rfl T.z_tuple (by decide +kernel)) sa_nil))))) (sw_or (st_cmp os_lt noX_lt (se_callB cs_len rfl T.z_len (by decide +kernel) (sa_cons (se_var 0) sa_nil)) se_int (nomark _)) (sw_or1 (st_not (st_val (se_call (O.o_is_word) hk (pas_of (takes_of rfl rfl rfl rfl)) rfl T.m_is_word T.F_is_word.kp T.b_is_word (sa_cons (se_ix hu1 (se_var 0) se_int) sa_nil)))))))) (sb_one (ss_ret se_bl)) sb_nil)
    (sb_cons (ss_if (st_cmp (os_in hu66) noX_in (se_ix hu1 (se_var 0) se_int) (se_tup (sa_cons se_str (sa_cons se_str sa_nil))) (by rfl)) (sb_one (ss_ret (se_cmp (os_eq hu64) noX_eq (se_callB cs_len rfl T.z_len (by decide +kernel) (sa_cons (se_var 0) sa_nil)) se_int (nomark _)))) sb_nil)
    (sb_cons (ss_if (SimW.t (sw_or (st_cmp (os_ne hu64) noX_ne (se_ix hu1 (se_var 0) se_int) se_str (nomark _)) (sw_or (st_cmp (os_ne hu64) noX_ne (se_callB cs_len rfl T.z_len (by decide +kernel) (sa_cons (se_var 0) sa_nil)) se_int (nomark _)) (sw_or1 (st_not (st_val (se_callB cs_isi rfl T.z_isinstance (by decide +kernel) (sa_cons (se_ix hu1 (se_var 0) se_int) (sa_cons (se_ty "str" rfl T.z_str (by decide +kernel)) sa_nil))))))))) (sb_one (ss_ret se_bl)) sb_nil)
    (sb_one (ss_ret (se_and (se_cmp (os_in hu66) noX_in (se_ix hu1 (se_var 0) se_int) (se_glob rfl T.m_SIDES T.r_SIDES (fun _ => T.v_SIDES)) (by rfl)) (se_one (se_call (O.o_is_saying) hk (pas_of (takes_of rfl rfl rfl rfl)) rfl T.m_is_saying T.F_is_saying.kp T.b_is_saying (sa_cons (se_ix hu1 (se_var 0) se_int) sa_nil)))))))))
set_option maxHeartbeats 4000000 in
theorem sim_law_tape {k : Nat} (T : Txt w K mg) (O : Oks P base T k) (cdv : Value) (A : Around) (outer : List Env) (s : Shared) (H : Hp) (E : XK) (hr : Room (2 * k + 3) (A.deeper (PyProof.Rows.envOfC "_law_tape" (defScope s_law_tape) s.heap.objs.size T.a__law_tape cdv))) :
    SimB (cxOf (L2.CX P w) P w K mg base n_law_tape "_law_tape" (defScope s_law_tape) T.a__law_tape cdv A outer s H E) (fun cls d _ H2 => E cls d H2) (defBody s_law_tape) (b_law_tape (call k)) := by
  have nd := sc_law_tape.nd
  have hk : Room (2 * k + 2) (A.deeper (PyProof.Rows.envOfC "_law_tape" (defScope s_law_tape) s.heap.objs.size T.a__law_tape cdv)) := hr.mono (by omega)
  have hu66 := hr.un
  have hu64 : (A.deeper (PyProof.Rows.envOfC "_law_tape" (defScope s_law_tape) s.heap.objs.size T.a__law_tape cdv)).units + 64 < cLine := by omega
  have hu1 : (A.deeper (PyProof.Rows.envOfC "_law_tape" (defScope s_law_tape) s.heap.objs.size T.a__law_tape cdv)).units + 1 < cLine := by omega
  have hu67 : (A.deeper (PyProof.Rows.envOfC "_law_tape" (defScope s_law_tape) s.heap.objs.size T.a__law_tape cdv)).units + 67 < cLine := by omega
  replace hu66 : (A.deeper (PyProof.Rows.envOfC "_law_tape" (defScope s_law_tape) s.heap.objs.size T.a__law_tape cdv)).units + 66 < cLine := by omega
  exact (sb_one (ss_ret (SimD.loc (sd_disp (sp_cons se_str (se_slice (se_var 0) so_none (so_some se_int)) (sp_cons se_str se_int (sp_cons se_str se_int sp_nil)))))))
set_option maxHeartbeats 4000000 in
theorem sim_law_draw {k : Nat} (T : Txt w K mg) (O : Oks P base T k) (cdv : Value) (A : Around) (outer : List Env) (s : Shared) (H : Hp) (E : XK) (hr : Room (2 * k + 3) (A.deeper (PyProof.Rows.envOfC "_law_draw" (defScope s_law_draw) s.heap.objs.size T.a__law_draw cdv))) :
    SimB (cxOf (L2.CX P w) P w K mg base n_law_draw "_law_draw" (defScope s_law_draw) T.a__law_draw cdv A outer s H E) (fun cls d _ H2 => E cls d H2) (defBody s_law_draw) (b_law_draw (call k)) := by
  have nd := sc_law_draw.nd
  have hk : Room (2 * k + 2) (A.deeper (PyProof.Rows.envOfC "_law_draw" (defScope s_law_draw) s.heap.objs.size T.a__law_draw cdv)) := hr.mono (by omega)
  have hu66 := hr.un
  have hu64 : (A.deeper (PyProof.Rows.envOfC "_law_draw" (defScope s_law_draw) s.heap.objs.size T.a__law_draw cdv)).units + 64 < cLine := by omega
  have hu1 : (A.deeper (PyProof.Rows.envOfC "_law_draw" (defScope s_law_draw) s.heap.objs.size T.a__law_draw cdv)).units + 1 < cLine := by omega
  have hu67 : (A.deeper (PyProof.Rows.envOfC "_law_draw" (defScope s_law_draw) s.heap.objs.size T.a__law_draw cdv)).units + 67 < cLine := by omega
  replace hu66 : (A.deeper (PyProof.Rows.envOfC "_law_draw" (defScope s_law_draw) s.heap.objs.size T.a__law_draw cdv)).units + 66 < cLine := by omega
  exact (sb_cons (ss_if (st_cmp os_gt noX_gt (se_ix hu1 (se_var 0) se_str) se_int (nomark _)) (sb_cons (ss_set 8 nd rfl (by first | exact Or.inl rfl | exact Or.inr rfl) (se_op os_mod noX_mod (se_ix hu1 (se_var 0) se_str) (se_var 1)))
    (sb_cons (ss_store hu1 (se_op os_fdiv noX_fdiv (se_ix hu1 (se_var 0) se_str) (se_var 1)) (se_var 0) se_str)
    (sb_one (ss_ret (se_var 8))))) sb_nil)
    (sb_cons (ss_set 2 nd rfl (by first | exact Or.inl rfl | exact Or.inr rfl) (se_ix hu1 (se_var 0) se_str))
    (sb_cons (ss_store hu1 (se_op os_add noX_add (se_var 2) se_int) (se_var 0) se_str)
    (sb_cons (ss_set 3 nd rfl (by first | exact Or.inl rfl | exact Or.inr rfl) (se_or (se_ix hu1 (se_var 0) se_str) (se_one (SimL.val (sl_lst (sa_cons se_int sa_nil))))))
    (sb_cons (ss_set 4 nd rfl (by first | exact Or.inl rfl | exact Or.inr rfl) (se_ix hu1 (se_var 3) (se_op os_mod noX_mod (se_var 2) (se_callB cs_len rfl T.z_len (by decide +kernel) (sa_cons (se_var 3) sa_nil)))))
    (sb_cons (ss_if (SimW.t (sw_and (st_cmp os_ge noX_ge (se_var 4) (se_op os_pow noX_pow se_int se_int) (nomark _)) (sw_and1 (st_cmp os_lt noX_lt (se_var 2) (se_callB cs_len rfl T.z_len (by decide +kernel) (sa_cons (se_var 3) sa_nil)) (nomark _))))) (sb_cons (ss_store hu1 (se_op os_fdiv noX_fdiv (se_op os_sub noX_sub (se_var 4) (se_op os_pow noX_pow se_int se_int)) (se_var 1)) (se_var 0) se_str)
    (sb_one (ss_ret (se_op os_mod noX_mod (se_op os_sub noX_sub (se_var 4) (se_op os_pow noX_pow se_int se_int)) (se_var 1))))) sb_nil)
    (sb_cons (ss_set 5 nd rfl (by first | exact Or.inl rfl | exact Or.inr rfl) (SimL.val (sl_lst (sa_cons se_int (sa_cons se_int (sa_cons se_int (sa_cons se_int (sa_cons se_int (sa_cons se_int (sa_cons se_int sa_nil))))))))))
    (sb_cons (ss_set 6 nd rfl (by first | exact Or.inl rfl | exact Or.inr rfl) (se_ix hu1 (se_var 5) (se_op os_mod noX_mod (se_var 2) se_int)))
    (sb_cons (ss_set 7 nd rfl (by first | exact Or.inl rfl | exact Or.inr rfl) (se_op os_mod noX_mod (se_op os_add noX_add (se_op os_add noX_add (se_op os_add noX_add (se_op os_mul noX_mul (se_op os_mod noX_mod (se_var 4) (se_var 6)) se_int) (se_op os_mul noX_mul (se_op os_mul noX_mul se_int (se_var 2)) (se_var 2))) (se_op os_mul noX_mul se_int (se_var 2))) se_int) (se_var 6)))
    (sb_cons (ss_set 7 nd rfl (by first | exact Or.inl rfl | exact Or.inr rfl) (se_op os_mod noX_mod (se_op os_mul noX_mul (se_var 7) (se_op os_add noX_add (se_var 7) se_int)) (se_ix hu1 (se_var 5) (se_op os_mod noX_mod (se_op os_add noX_add (se_var 2) se_int) se_int))))
    (sb_cons (ss_set 8 nd rfl (by first | exact Or.inl rfl | exact Or.inr rfl) (se_op os_fdiv noX_fdiv (se_op os_mod noX_mod (se_op os_mul noX_mul (se_var 7) (se_var 7)) (se_var 6)) se_int))
    (sb_cons (ss_if (st_cmp os_gt noX_gt (se_var 1) (se_op os_pow noX_pow se_int se_int) (nomark _)) (sb_one (ss_set 8 nd rfl (by first | exact Or.inl rfl | exact Or.inr rfl) (se_op os_add noX_add (se_op os_mod noX_mod (se_var 8) (se_op os_pow noX_pow se_int se_int)) (se_op os_mul noX_mul (se_op os_pow noX_pow se_int se_int) (se_call (O.o__law_draw) hk (pas_of (takes_of rfl rfl rfl rfl)) rfl T.m__law_draw T.F__law_draw.kp T.b__law_draw (sa_cons (se_var 0) (sa_cons (se_op os_add noX_add (se_op os_fdiv noX_fdiv (se_var 1) (se_op os_pow noX_pow se_int se_int)) se_int) sa_nil))))))) sb_nil)
    (sb_one (ss_ret (se_op os_mod noX_mod (se_var 8) (se_var 1))))))))))))))))
set_option maxHeartbeats 4000000 in
theorem sim_law_words {k : Nat} (T : Txt w K mg) (O : Oks P base T k) (cdv : Value) (A : Around) (outer : List Env) (s : Shared) (H : Hp) (E : XK) (hr : Room (2 * k + 3) (A.deeper (PyProof.Rows.envOfC "_law_words" (defScope s_law_words) s.heap.objs.size T.a__law_words cdv))) :
    SimB (cxOf (L2.CX P w) P w K mg base n_law_words "_law_words" (defScope s_law_words) T.a__law_words cdv A outer s H E) (fun cls d _ H2 => E cls d H2) (defBody s_law_words) (b_law_words (call k)) := by
  have nd := sc_law_words.nd
  have hk : Room (2 * k + 2) (A.deeper (PyProof.Rows.envOfC "_law_words" (defScope s_law_words) s.heap.objs.size T.a__law_words cdv)) := hr.mono (by omega)
  have hu66 := hr.un
  have hu64 : (A.deeper (PyProof.Rows.envOfC "_law_words" (defScope s_law_words) s.heap.objs.size T.a__law_words cdv)).units + 64 < cLine := by omega
  have hu1 : (A.deeper (PyProof.Rows.envOfC "_law_words" (defScope s_law_words) s.heap.objs.size T.a__law_words cdv)).units + 1 < cLine := by omega
  have hu67 : (A.deeper (PyProof.Rows.envOfC "_law_words" (defScope s_law_words) s.heap.objs.size T.a__law_words cdv)).units + 67 < cLine := by omega
  replace hu66 : (A.deeper (PyProof.Rows.envOfC "_law_words" (defScope s_law_words) s.heap.objs.size T.a__law_words cdv)).units + 66 < cLine := by omega
  exact (sb_cons (ss_set 2 nd rfl (by first | exact Or.inl rfl | exact Or.inr rfl) se_str)
    (sb_cons (ss_set 3 nd rfl (by first | exact Or.inl rfl | exact Or.inr rfl) (se_bm PySem.F.plainAttrs_str PySem.F.slot_str_split PySem.F.type_str_split ms_split se_str (sa_cons se_str sa_nil)))
    (sb_cons (ss_set 4 nd rfl (by first | exact Or.inl rfl | exact Or.inr rfl) (se_bm PySem.F.plainAttrs_str PySem.F.slot_str_join PySem.F.type_str_join ms_join se_str (sa_cons (SimL.val (sl_comp rfl nd (si_range1 rfl T.z_range (sa_cons (se_op os_add noX_add se_int (se_call (O.o__law_draw) hk (pas_of (takes_of rfl rfl rfl rfl)) rfl T.m__law_draw T.F__law_draw.kp T.b__law_draw (sa_cons (se_var 0) (sa_cons se_int sa_nil)))) sa_nil)) (blkOk_by (own := [("_law_k", 6)]) (N := n_law_words) (sc := defScope s_law_words) (by decide +kernel)) (fun _ _ _ _ _ => (sg_name 6 nd rfl (by first | exact Or.inl rfl | exact Or.inr rfl))) (fun _ _ _ _ _ => ts_nil) (fun _ _ _ _ _ => (se_ix hu1 (se_var 2) (se_call (O.o__law_draw) hk pas_none rfl T.m__law_draw T.F__law_draw.kp T.b__law_draw (sa_cons (se_var 0) (sa_cons se_int sa_nil))))))) sa_nil)))
    (sb_cons (ss_set 5 nd rfl (by first | exact Or.inl rfl | exact Or.inr rfl) (SimL.loc (sl_lst sa_nil)))
    (sb_cons (ss_for (passes_of rfl) rfl (si_range1 rfl T.z_range (sa_cons (se_var 1) sa_nil)) (sg_name 6 nd rfl (by first | exact Or.inl rfl | exact Or.inr rfl)) (sb_cons (ss_set 7 nd rfl (by first | exact Or.inl rfl | exact Or.inr rfl) (se_ix hu1 (se_var 2) (se_call (O.o__law_draw) hk (pas_of (takes_of rfl rfl rfl rfl)) rfl T.m__law_draw T.F__law_draw.kp T.b__law_draw (sa_cons (se_var 0) (sa_cons se_int sa_nil)))))
    (sb_cons (ss_set 8 nd rfl (by first | exact Or.inl rfl | exact Or.inr rfl) (SimL.val (sl_lst (sa_cons (se_var 4) (sa_cons (se_op os_add noX_add (se_var 4) (se_var 7)) (sa_cons (se_op os_add noX_add (se_var 7) (se_var 4)) (sa_cons (se_var 7) (sa_cons (se_op os_add noX_add (se_op os_add noX_add (se_var 4) (se_var 7)) (se_var 7)) (sa_cons (se_ix hu1 (se_var 3) (se_call (O.o__law_draw) hk (pas_of (takes_of rfl rfl rfl rfl)) rfl T.m__law_draw T.F__law_draw.kp T.b__law_draw (sa_cons (se_var 0) (sa_cons se_int sa_nil)))) sa_nil)))))))))
    (sb_cons (ss_set 9 nd rfl (by first | exact Or.inl rfl | exact Or.inr rfl) (se_slice (se_ix hu1 (se_var 8) (se_call (O.o__law_draw) hk (pas_of (takes_of rfl rfl rfl rfl)) rfl T.m__law_draw T.F__law_draw.kp T.b__law_draw (sa_cons (se_var 0) (sa_cons se_int sa_nil)))) so_none (so_some se_int)))
    (sb_cons (ss_for (passes_of rfl) rfl (si_str (se_var 2)) (sg_name 10 nd rfl (by first | exact Or.inl rfl | exact Or.inr rfl)) (sb_one (ss_if (SimW.t (sw_or (st_cmp (os_in hu66) noX_in (se_var 9) (se_var 5) (by rfl)) (sw_or1 (st_cmp (os_in hu66) noX_in (se_var 9) (se_tup (sa_cons se_str (sa_cons se_str (sa_cons se_str (sa_cons se_str (sa_cons se_str (sa_cons se_str (sa_cons se_str sa_nil)))))))) (by rfl))))) (sb_one (ss_set 9 nd rfl (by first | exact Or.inl rfl | exact Or.inr rfl) (se_op os_add noX_add (se_slice (se_var 9) so_none (so_some se_int)) (se_var 10)))) sb_nil)))
    (sb_one (ss_expr (se_bm PySem.F.plainAttrs_list PySem.F.slot_list_append PySem.F.type_list_append ms_append (se_var 5) (sa_cons (se_var 9) sa_nil)))))))))
    (sb_one (ss_ret (se_ice (se_var 5)))))))))
set_option maxHeartbeats 4000000 in
theorem sim_law_saying {k : Nat} (T : Txt w K mg) (O : Oks P base T k) (cdv : Value) (A : Around) (outer : List Env) (s : Shared) (H : Hp) (E : XK) (hr : Room (2 * k + 3) (A.deeper (PyProof.Rows.envOfC "_law_saying" (defScope s_law_saying) s.heap.objs.size T.a__law_saying cdv))) :
    SimB (cxOf (L2.CX P w) P w K mg base n_law_saying "_law_saying" (defScope s_law_saying) T.a__law_saying cdv A outer s H E) (fun cls d _ H2 => E cls d H2) (defBody s_law_saying) (b_law_saying (call k)) := by
  have nd := sc_law_saying.nd
  have hk : Room (2 * k + 2) (A.deeper (PyProof.Rows.envOfC "_law_saying" (defScope s_law_saying) s.heap.objs.size T.a__law_saying cdv)) := hr.mono (by omega)
  have hu66 := hr.un
  have hu64 : (A.deeper (PyProof.Rows.envOfC "_law_saying" (defScope s_law_saying) s.heap.objs.size T.a__law_saying cdv)).units + 64 < cLine := by omega
  have hu1 : (A.deeper (PyProof.Rows.envOfC "_law_saying" (defScope s_law_saying) s.heap.objs.size T.a__law_saying cdv)).units + 1 < cLine := by omega
  have hu67 : (A.deeper (PyProof.Rows.envOfC "_law_saying" (defScope s_law_saying) s.heap.objs.size T.a__law_saying cdv)).units + 67 < cLine := by omega
  replace hu66 : (A.deeper (PyProof.Rows.envOfC "_law_saying" (defScope s_law_saying) s.heap.objs.size T.a__law_saying cdv)).units + 66 < cLine := by omega
  exact (sb_cons (ss_set 4 nd rfl (by first | exact Or.inl rfl | exact Or.inr rfl) (se_call (O.o__law_draw) hk (pas_of (takes_of rfl rfl rfl rfl)) rfl T.m__law_draw T.F__law_draw.kp T.b__law_draw (sa_cons (se_var 0) (sa_cons se_int sa_nil))))
    (sb_cons (ss_if (SimW.t (sw_or (st_cmp os_lt noX_lt (se_ix hu1 (se_var 2) se_int) se_int (nomark _)) (sw_or (st_cmp os_lt noX_lt (se_var 3) se_int (nomark _)) (sw_or1 (st_cmp os_lt noX_lt (se_var 4) se_int (nomark _)))))) (sb_one (ss_ret (se_ix hu1 (SimL.val (sl_lst (sa_cons (se_tup (sa_cons se_str sa_nil)) (sa_cons (se_tup (sa_cons se_str sa_nil)) (sa_cons (se_tup (sa_cons se_str (sa_cons (se_ix hu1 (se_var 1) (se_call (O.o__law_draw) hk (pas_of (takes_of rfl rfl rfl rfl)) rfl T.m__law_draw T.F__law_draw.kp T.b__law_draw (sa_cons (se_var 0) (sa_cons (se_callB cs_len rfl T.z_len (by decide +kernel) (sa_cons (se_var 1) sa_nil)) sa_nil)))) sa_nil))) sa_nil))))) (se_callB (cs_min rfl) rfl T.z_min (by decide +kernel) (sa_cons se_int (sa_cons (se_call (O.o__law_draw) hk (pas_of (takes_of rfl rfl rfl rfl)) rfl T.m__law_draw T.F__law_draw.kp T.b__law_draw (sa_cons (se_var 0) (sa_cons se_int sa_nil))) sa_nil)))))) sb_nil)
    (sb_cons (ss_store hu1 (se_op os_sub noX_sub (se_op os_sub noX_sub (se_ix hu1 (se_var 2) se_int) se_int) (se_callTy cs_int rfl T.z_int (by decide +kernel) (sa_cons (se_cmp os_gt noX_gt (se_var 4) se_int (nomark _)) sa_nil))) (se_var 2) se_int)
    (sb_cons (ss_if (st_cmp (os_eq hu64) noX_eq (se_var 4) se_int (nomark _)) (sb_one (ss_ret (se_tup (sa_cons se_str (sa_cons (se_call (O.o__law_saying) hk (pas_of (takes_of rfl rfl rfl rfl)) rfl T.m__law_saying T.F__law_saying.kp T.b__law_saying (sa_cons (se_var 0) (sa_cons (se_var 1) (sa_cons (se_var 2) (sa_cons (se_op os_sub noX_sub (se_var 3) se_int) sa_nil))))) sa_nil))))) sb_nil)
    (sb_cons (ss_set 5 nd rfl (by first | exact Or.inl rfl | exact Or.inr rfl) (se_ix hu1 (SimL.val (sl_lst (sa_cons se_str (sa_cons se_str (sa_cons se_str (sa_cons se_str (sa_cons se_str (sa_cons se_str sa_nil)))))))) (se_op os_sub noX_sub (se_var 4) se_int)))
    (sb_cons (ss_set 6 nd rfl (by first | exact Or.inl rfl | exact Or.inr rfl) (se_call (O.o__law_saying) hk (pas_of (takes_of rfl rfl rfl rfl)) rfl T.m__law_saying T.F__law_saying.kp T.b__law_saying (sa_cons (se_var 0) (sa_cons (se_var 1) (sa_cons (se_var 2) (sa_cons (se_op os_sub noX_sub (se_var 3) se_int) sa_nil))))))
    (sb_one (ss_ret (se_tup (sa_cons (se_var 5) (sa_cons (se_var 6) (sa_cons (se_call (O.o__law_saying) hk (pas_of (takes_of rfl rfl rfl rfl)) rfl T.m__law_saying T.F__law_saying.kp T.b__law_saying (sa_cons (se_var 0) (sa_cons (se_var 1) (sa_cons (se_var 2) (sa_cons (se_op os_sub noX_sub (se_var 3) se_int) sa_nil))))) sa_nil))))))))))))
set_option maxHeartbeats 4000000 in
theorem sim_law_desk_row {k : Nat} (T : Txt w K mg) (O : Oks P base T k) (cdv : Value) (A : Around) (outer : List Env) (s : Shared) (H : Hp) (E : XK) (hr : Room (2 * k + 3) (A.deeper (PyProof.Rows.envOfC "_law_desk_row" (defScope s_law_desk_row) s.heap.objs.size T.a__law_desk_row cdv))) :
    SimB (cxOf (L2.CX P w) P w K mg base n_law_desk_row "_law_desk_row" (defScope s_law_desk_row) T.a__law_desk_row cdv A outer s H E) (fun cls d _ H2 => E cls d H2) (defBody s_law_desk_row) (b_law_desk_row (call k)) := by
  have nd := sc_law_desk_row.nd
  have hk : Room (2 * k + 2) (A.deeper (PyProof.Rows.envOfC "_law_desk_row" (defScope s_law_desk_row) s.heap.objs.size T.a__law_desk_row cdv)) := hr.mono (by omega)
  have hu66 := hr.un
  have hu64 : (A.deeper (PyProof.Rows.envOfC "_law_desk_row" (defScope s_law_desk_row) s.heap.objs.size T.a__law_desk_row cdv)).units + 64 < cLine := by omega
  have hu1 : (A.deeper (PyProof.Rows.envOfC "_law_desk_row" (defScope s_law_desk_row) s.heap.objs.size T.a__law_desk_row cdv)).units + 1 < cLine := by omega
  have hu67 : (A.deeper (PyProof.Rows.envOfC "_law_desk_row" (defScope s_law_desk_row) s.heap.objs.size T.a__law_desk_row cdv)).units + 67 < cLine := by omega
  replace hu66 : (A.deeper (PyProof.Rows.envOfC "_law_desk_row" (defScope s_law_desk_row) s.heap.objs.size T.a__law_desk_row cdv)).units + 66 < cLine := by omega
  exact (sb_cons (ss_set 3 nd rfl (by first | exact Or.inl rfl | exact Or.inr rfl) (se_ix hu1 (se_var 1) (se_call (O.o__law_draw) hk (pas_of (takes_of rfl rfl rfl rfl)) rfl T.m__law_draw T.F__law_draw.kp T.b__law_draw (sa_cons (se_var 0) (sa_cons (se_callB cs_len rfl T.z_len (by decide +kernel) (sa_cons (se_var 1) sa_nil)) sa_nil)))))
    (sb_cons (ss_set 4 nd rfl (by first | exact Or.inl rfl | exact Or.inr rfl) (se_call (O.o__law_draw) hk (pas_of (takes_of rfl rfl rfl rfl)) rfl T.m__law_draw T.F__law_draw.kp T.b__law_draw (sa_cons (se_var 0) (sa_cons se_int sa_nil))))
    (sb_cons (ss_if (st_cmp os_lt noX_lt (se_var 4) se_int (nomark _)) (sb_one (ss_ret (se_tup (sa_cons se_str (sa_cons (se_var 3) (sa_cons (se_ix hu1 (SimL.val (sl_lst (sa_cons se_str (sa_cons se_str sa_nil)))) (se_call (O.o__law_draw) hk (pas_of (takes_of rfl rfl rfl rfl)) rfl T.m__law_draw T.F__law_draw.kp T.b__law_draw (sa_cons (se_var 0) (sa_cons se_int sa_nil)))) (sa_cons (se_ix hu1 (se_var 2) (se_call (O.o__law_draw) hk (pas_of (takes_of rfl rfl rfl rfl)) rfl T.m__law_draw T.F__law_draw.kp T.b__law_draw (sa_cons (se_var 0) (sa_cons (se_callB cs_len rfl T.z_len (by decide +kernel) (sa_cons (se_var 2) sa_nil)) sa_nil)))) sa_nil))))))) sb_nil)
    (sb_one (ss_ret (se_tup (sa_cons (se_ix hu1 (SimL.val (sl_lst (sa_cons se_str (sa_cons se_str (sa_cons se_str sa_nil))))) (se_op os_sub noX_sub (se_var 4) se_int)) (sa_cons (se_var 3) sa_nil))))))))
set_option maxHeartbeats 4000000 in
theorem sim_law_after {k : Nat} (T : Txt w K mg) (O : Oks P base T k) (cdv : Value) (A : Around) (outer : List Env) (s : Shared) (H : Hp) (E : XK) (hr : Room (2 * k + 3) (A.deeper (PyProof.Rows.envOfC "_law_after" (defScope s_law_after) s.heap.objs.size T.a__law_after cdv))) :
    SimB (cxOf (L2.CX P w) P w K mg base n_law_after "_law_after" (defScope s_law_after) T.a__law_after cdv A outer s H E) (fun cls d _ H2 => E cls d H2) (defBody s_law_after) (b_law_after (call k)) := by
  have nd := sc_law_after.nd
  have hk : Room (2 * k + 2) (A.deeper (PyProof.Rows.envOfC "_law_after" (defScope s_law_after) s.heap.objs.size T.a__law_after cdv)) := hr.mono (by omega)
  have hu66 := hr.un
  have hu64 : (A.deeper (PyProof.Rows.envOfC "_law_after" (defScope s_law_after) s.heap.objs.size T.a__law_after cdv)).units + 64 < cLine := by omega
  have hu1 : (A.deeper (PyProof.Rows.envOfC "_law_after" (defScope s_law_after) s.heap.objs.size T.a__law_after cdv)).units + 1 < cLine := by omega
  have hu67 : (A.deeper (PyProof.Rows.envOfC "_law_after" (defScope s_law_after) s.heap.objs.size T.a__law_after cdv)).units + 67 < cLine := by omega
  replace hu66 : (A.deeper (PyProof.Rows.envOfC "_law_after" (defScope s_law_after) s.heap.objs.size T.a__law_after cdv)).units + 66 < cLine := by omega
  exact (sb_cons (ss_set 2 nd rfl (by first | exact Or.inl rfl | exact Or.inr rfl) (SimD.loc (sd_callTy dictC_noX (cd_dict rfl) rfl T.z_dict (by decide +kernel) (sa_cons (se_var 0) sa_nil))))
    (sb_cons (ss_if (st_cmp (os_eq hu64) noX_eq (se_cmp (os_eq hu64) noX_eq (se_ix hu1 (se_var 1) se_int) se_str (nomark _)) (se_cmp (os_in hu66) noX_in (se_ix hu1 (se_var 1) se_int) (se_var 0) (by rfl)) (nomark _)) (sb_one (ss_ret se_non)) sb_nil)
    (sb_cons (ss_if (st_cmp (os_eq hu64) noX_eq (se_ix hu1 (se_var 1) se_int) se_str (nomark _)) (sb_one (ss_store hu1 (se_tup (sa_cons (se_ix hu1 (se_var 1) se_int) (sa_cons (se_ix hu1 (se_var 1) se_int) sa_nil))) (se_var 2) (se_ix hu1 (se_var 1) se_int))) (sb_one (ss_if (st_cmp (os_eq hu64) noX_eq (se_ix hu1 (se_var 1) se_int) se_str (nomark _)) (sb_one (ss_expr (se_bm PySem.F.plainAttrs_dict PySem.F.slot_dict_pop PySem.F.type_dict_pop ms_dpop (se_var 2) (sa_cons (se_ix hu1 (se_var 1) se_int) sa_nil)))) (sb_cons (ss_asg (se_ix hu1 (se_var 0) (se_ix hu1 (se_var 1) se_int)) (sg_tup rfl (sg_cons (sg_name 3 nd rfl (by first | exact Or.inl rfl | exact Or.inr rfl)) (sg_cons (sg_name 4 nd rfl (by first | exact Or.inl rfl | exact Or.inr rfl)) sg_nil))))
    (sb_one (ss_store hu1 (se_tup (sa_cons (se_if (st_cmp (os_eq hu64) noX_eq (se_var 3) se_str (nomark _)) se_str se_str) (sa_cons (se_var 4) sa_nil))) (se_var 2) (se_ix hu1 (se_var 1) se_int)))))))
    (sb_one (ss_ret (se_ice (se_var 2)))))))
set_option maxHeartbeats 4000000 in
theorem sim_law_bad {k : Nat} (T : Txt w K mg) (O : Oks P base T k) (cdv : Value) (A : Around) (outer : List Env) (s : Shared) (H : Hp) (E : XK) (hr : Room (2 * k + 3) (A.deeper (PyProof.Rows.envOfC "_law_bad" (defScope s_law_bad) s.heap.objs.size T.a__law_bad cdv))) :
    SimB (cxOf (L2.CX P w) P w K mg base n_law_bad "_law_bad" (defScope s_law_bad) T.a__law_bad cdv A outer s H E) (fun cls d _ H2 => E cls d H2) (defBody s_law_bad) (b_law_bad (call k)) := by
  have nd := sc_law_bad.nd
  have hk : Room (2 * k + 2) (A.deeper (PyProof.Rows.envOfC "_law_bad" (defScope s_law_bad) s.heap.objs.size T.a__law_bad cdv)) := hr.mono (by omega)
  have hu66 := hr.un
  have hu64 : (A.deeper (PyProof.Rows.envOfC "_law_bad" (defScope s_law_bad) s.heap.objs.size T.a__law_bad cdv)).units + 64 < cLine := by omega
  have hu1 : (A.deeper (PyProof.Rows.envOfC "_law_bad" (defScope s_law_bad) s.heap.objs.size T.a__law_bad cdv)).units + 1 < cLine := by omega
  have hu67 : (A.deeper (PyProof.Rows.envOfC "_law_bad" (defScope s_law_bad) s.heap.objs.size T.a__law_bad cdv)).units + 67 < cLine := by omega
  replace hu66 : (A.deeper (PyProof.Rows.envOfC "_law_bad" (defScope s_law_bad) s.heap.objs.size T.a__law_bad cdv)).units + 66 < cLine := by omega
  exact (sb_cons (ss_set 2 nd rfl (by first | exact Or.inl rfl | exact Or.inr rfl) (se_ix hu1 (se_var 1) se_int))
    (sb_cons (ss_set 3 nd rfl (by first | exact Or.inl rfl | exact Or.inr rfl) (SimL.loc (sl_lst (sa_cons (se_tup (sa_cons se_str (sa_cons (se_var 2) (sa_cons se_str sa_nil)))) (sa_cons (se_tup (sa_cons se_str (sa_cons (se_var 2) (sa_cons se_str (sa_cons (se_tup (sa_cons se_str sa_nil)) sa_nil))))) (sa_cons (se_tup (sa_cons se_str (sa_cons (se_var 2) (sa_cons se_str (sa_cons se_str sa_nil))))) (sa_cons (se_tup (sa_cons se_str sa_nil)) sa_nil)))))))
    (sb_cons (ss_set 3 nd rfl (by first | exact Or.inl rfl | exact Or.inr rfl) (SimL.loc (sl_add (se_var 3) (SimL.val (sl_lst (sa_cons (se_tup (sa_cons se_str (sa_cons se_str sa_nil))) (sa_cons (se_tup (sa_cons se_str (sa_cons (se_var 2) (sa_cons se_str sa_nil)))) (sa_cons (SimL.val (sl_lst (sa_cons se_str (sa_cons (se_var 2) sa_nil)))) (sa_cons (se_tup (sa_cons se_str sa_nil)) (sa_cons (se_tup sa_nil) (sa_cons se_non (sa_cons se_int (sa_cons se_str (sa_cons (se_tup (sa_cons se_str (sa_cons se_int sa_nil))) sa_nil))))))))))))))
    (sb_cons (ss_set 3 nd rfl (by first | exact Or.inl rfl | exact Or.inr rfl) (SimL.loc (sl_add (se_var 3) (SimL.val (sl_lst (sa_cons (se_tup (sa_cons se_str (sa_cons (se_var 2) sa_nil))) (sa_cons (se_tup (sa_cons se_str (sa_cons (se_var 2) (sa_cons se_str (sa_cons (se_tup (sa_cons se_str (sa_cons se_str sa_nil))) sa_nil))))) (sa_cons (se_tup (sa_cons se_str (sa_cons (se_var 2) (sa_cons se_str (sa_cons (se_tup sa_nil) sa_nil))))) sa_nil))))))))
    (sb_cons (ss_expr (se_bm PySem.F.plainAttrs_list PySem.F.slot_list_append PySem.F.type_list_append ms_append (se_var 3) (sa_cons (se_tup (sa_cons se_str (sa_cons (se_var 2) (sa_cons se_str (sa_cons (se_tup (sa_cons se_str (sa_cons (se_tup (sa_cons se_str sa_nil)) sa_nil))) sa_nil))))) sa_nil)))
    (sb_cons (ss_set 3 nd rfl (by first | exact Or.inl rfl | exact Or.inr rfl) (SimL.loc (sl_add (se_var 3) (SimL.val (sl_lst (sa_cons (se_tup (sa_cons se_str (sa_cons (se_var 2) (sa_cons se_str (sa_cons (se_tup (sa_cons se_str sa_nil)) (sa_cons se_int sa_nil)))))) (sa_cons (se_tup (sa_cons se_str (sa_cons se_str (sa_cons se_str (sa_cons (se_tup (sa_cons se_str sa_nil)) sa_nil))))) (sa_cons (se_tup (sa_cons se_str (sa_cons (se_var 2) (sa_cons se_non (sa_cons (se_tup (sa_cons se_str sa_nil)) sa_nil))))) sa_nil))))))))
    (sb_one (ss_ret (se_ix hu1 (se_var 3) (se_call (O.o__law_draw) hk (pas_of (takes_of rfl rfl rfl rfl)) rfl T.m__law_draw T.F__law_draw.kp T.b__law_draw (sa_cons (se_var 0) (sa_cons (se_callB cs_len rfl T.z_len (by decide +kernel) (sa_cons (se_var 3) sa_nil)) sa_nil))))))))))))
set_option maxHeartbeats 4000000 in
theorem sim_law_told {k : Nat} (T : Txt w K mg) (O : Oks P base T k) (cdv : Value) (A : Around) (outer : List Env) (s : Shared) (H : Hp) (E : XK) (hr : Room (2 * k + 3) (A.deeper (PyProof.Rows.envOfC "_law_told" (defScope s_law_told) s.heap.objs.size T.a__law_told cdv))) :
    SimB (cxOf (L2.CX P w) P w K mg base n_law_told "_law_told" (defScope s_law_told) T.a__law_told cdv A outer s H E) (fun cls d _ H2 => E cls d H2) (defBody s_law_told) (b_law_told (call k)) := by
  have nd := sc_law_told.nd
  have hk : Room (2 * k + 2) (A.deeper (PyProof.Rows.envOfC "_law_told" (defScope s_law_told) s.heap.objs.size T.a__law_told cdv)) := hr.mono (by omega)
  have hu66 := hr.un
  have hu64 : (A.deeper (PyProof.Rows.envOfC "_law_told" (defScope s_law_told) s.heap.objs.size T.a__law_told cdv)).units + 64 < cLine := by omega
  have hu1 : (A.deeper (PyProof.Rows.envOfC "_law_told" (defScope s_law_told) s.heap.objs.size T.a__law_told cdv)).units + 1 < cLine := by omega
  have hu67 : (A.deeper (PyProof.Rows.envOfC "_law_told" (defScope s_law_told) s.heap.objs.size T.a__law_told cdv)).units + 67 < cLine := by omega
  replace hu66 : (A.deeper (PyProof.Rows.envOfC "_law_told" (defScope s_law_told) s.heap.objs.size T.a__law_told cdv)).units + 66 < cLine := by omega
  exact (sb_cons (ss_set 3 nd rfl (by first | exact Or.inl rfl | exact Or.inr rfl) se_non)
    (sb_cons (ss_tryT2 rfl rfl rfl nd rfl rfl ⟨rfl, by decide, .inl T.x_NoLabel.mc⟩ ⟨rfl, by decide, .inl T.x_NoRow.mc⟩ (takes_of rfl rfl rfl rfl) (exa_ok (exk_NoLabel T) (exa_cons (exk_NoRow T) exa_nil)) (fun W pn xe tk po => (sb_one (ss_if (st_cmp (os_eq hu64) noX_eq (se_var 1) se_str (nomark _)) (sb_one (ss_expr (se_meth (O.o_Desk_several) hk (pas_of tk) T.mc_Desk T.cl_Desk T.me_Desk_several T.b_Desk_several (se_var 0) (sa_cons (se_var 2) sa_nil)))) (sb_one (ss_if (st_cmp (os_eq hu64) noX_eq (se_var 1) se_str (nomark _)) (sb_one (ss_expr (se_meth0 (O.o_Desk_undo) hk (pas_of tk) T.mc_Desk T.cl_Desk T.me_Desk_undo T.b_Desk_undo (se_var 0)))) (sb_one (ss_if (st_cmp (os_eq hu64) noX_eq (se_var 1) se_str (nomark _)) (sb_one (ss_expr (se_meth (O.o_Desk_put) hk (pas_of tk) T.mc_Desk T.cl_Desk T.me_Desk_put T.b_Desk_put (se_var 0) (sa_cons (se_ix hu1 (se_var 2) se_int) (sa_cons (se_ix hu1 (se_var 2) se_int) (sa_cons (se_ix hu1 (se_var 2) se_int) sa_nil)))))) (sb_one (ss_if (st_cmp (os_eq hu64) noX_eq (se_var 1) se_str (nomark _)) (sb_one (ss_expr (se_meth (O.o_Desk_drop) hk (pas_of tk) T.mc_Desk T.cl_Desk T.me_Desk_drop T.b_Desk_drop (se_var 0) (sa_cons (se_ix hu1 (se_var 2) se_int) sa_nil)))) (sb_one (ss_expr (se_meth (O.o_Desk_move) hk (pas_of tk) T.mc_Desk T.cl_Desk T.me_Desk_move T.b_Desk_move (se_var 0) (sa_cons (se_ix hu1 (se_var 2) se_int) sa_nil))))))))))))) (fun a pn => (sb_one (ss_set 3 nd rfl (by first | exact Or.inl rfl | exact Or.inr rfl) (se_var 4)))))
    (sb_cons (ss_if (st_val (se_callB (cs_isxN (is_ok T) T.x_NoLabel.mc T.en_NoLabel) rfl T.z_isinstance (by decide +kernel) (sa_cons (se_var 3) (sa_cons (se_cl rfl T.x_NoLabel.mc) sa_nil)))) (sb_one (ss_ret (se_if (st_val (se_callB (cs_isx (is_ok T)) rfl T.z_isinstance (by decide +kernel) (sa_cons (se_var 3) (sa_cons (se_ty "KeyError" rfl T.z_KeyError (by decide +kernel)) sa_nil)))) (se_tup (sa_cons se_str (sa_cons (se_fld (se_var 3) (fld_label T)) sa_nil))) se_non))) sb_nil)
    (sb_cons (ss_if (st_val (se_callB (cs_isxN (is_ok T) T.x_NoRow.mc T.en_NoRow) rfl T.z_isinstance (by decide +kernel) (sa_cons (se_var 3) (sa_cons (se_cl rfl T.x_NoRow.mc) sa_nil)))) (sb_one (ss_ret (se_if (st_val (se_callB (cs_isx (is_ok T)) rfl T.z_isinstance (by decide +kernel) (sa_cons (se_var 3) (sa_cons (se_ty "ValueError" rfl T.z_ValueError (by decide +kernel)) sa_nil)))) (se_tup (sa_cons se_str (sa_cons (se_fld (se_var 3) (fld_row T)) sa_nil))) se_non))) sb_nil)
    (sb_one (ss_ret se_non))))))
set_option maxHeartbeats 4000000 in
theorem sim_law_right {k : Nat} (T : Txt w K mg) (O : Oks P base T k) (cdv : Value) (A : Around) (outer : List Env) (s : Shared) (H : Hp) (E : XK) (hr : Room (2 * k + 3) (A.deeper (PyProof.Rows.envOfC "_law_right" (defScope s_law_right) s.heap.objs.size T.a__law_right cdv))) :
    SimB (cxOf (L2.CX P w) P w K mg base n_law_right "_law_right" (defScope s_law_right) T.a__law_right cdv A outer s H E) (fun cls d _ H2 => E cls d H2) (defBody s_law_right) (b_law_right (call k)) := by
  have nd := sc_law_right.nd
  have hk : Room (2 * k + 2) (A.deeper (PyProof.Rows.envOfC "_law_right" (defScope s_law_right) s.heap.objs.size T.a__law_right cdv)) := hr.mono (by omega)
  have hu66 := hr.un
  have hu64 : (A.deeper (PyProof.Rows.envOfC "_law_right" (defScope s_law_right) s.heap.objs.size T.a__law_right cdv)).units + 64 < cLine := by omega
  have hu1 : (A.deeper (PyProof.Rows.envOfC "_law_right" (defScope s_law_right) s.heap.objs.size T.a__law_right cdv)).units + 1 < cLine := by omega
  have hu67 : (A.deeper (PyProof.Rows.envOfC "_law_right" (defScope s_law_right) s.heap.objs.size T.a__law_right cdv)).units + 67 < cLine := by omega
  replace hu66 : (A.deeper (PyProof.Rows.envOfC "_law_right" (defScope s_law_right) s.heap.objs.size T.a__law_right cdv)).units + 66 < cLine := by omega
  exact (sb_cons (ss_set 3 nd rfl (by first | exact Or.inl rfl | exact Or.inr rfl) (se_ix hu1 (se_var 1) (se_un us_neg se_int)))
    (sb_one (ss_ret (se_and (se_cmp (os_eq hu64) noX_eq (se_meth0 (O.o_Desk_labels) hk (pas_of (takes_of rfl rfl rfl rfl)) T.mc_Desk T.cl_Desk T.me_Desk_labels T.b_Desk_labels (se_var 0)) (SimL.val (sl_comp rfl nd (si_list (SimL.val (sl_callB (cl_sortedA rfl hu64) rfl T.z_sorted (by decide +kernel) (sa_cons (se_var 3) sa_nil)))) (blkOk_by (own := [("_law_label", 4)]) (N := n_law_right) (sc := defScope s_law_right) (by decide +kernel)) (fun _ _ _ _ _ => (sg_name 4 nd rfl (by first | exact Or.inl rfl | exact Or.inr rfl))) (fun _ _ _ _ _ => ts_nil) (fun _ _ _ _ _ => (se_tup (sa_cons (se_var 4) (sa_cons (se_ix hu1 (se_ix hu1 (se_var 3) (se_var 4)) se_int) sa_nil)))))) (nomark _)) (se_one (se_cmp (os_eq hu64) noX_eq (se_meth0 (O.o_Desk_deeds) hk (pas_of (takes_of rfl rfl rfl rfl)) T.mc_Desk T.cl_Desk T.me_Desk_deeds T.b_Desk_deeds (se_var 0)) (se_var 2) (nomark _)))))))
set_option maxHeartbeats 4000000 in
theorem sim_law_several {k : Nat} (T : Txt w K mg) (O : Oks P base T k) (cdv : Value) (A : Around) (outer : List Env) (s : Shared) (H : Hp) (E : XK) (hr : Room (2 * k + 3) (A.deeper (PyProof.Rows.envOfC "_law_several" (defScope s_law_several) s.heap.objs.size T.a__law_several cdv))) :
    SimB (cxOf (L2.CX P w) P w K mg base n_law_several "_law_several" (defScope s_law_several) T.a__law_several cdv A outer s H E) (fun cls d _ H2 => E cls d H2) (defBody s_law_several) (b_law_several (call k)) := by
  have nd := sc_law_several.nd
  have hk : Room (2 * k + 2) (A.deeper (PyProof.Rows.envOfC "_law_several" (defScope s_law_several) s.heap.objs.size T.a__law_several cdv)) := hr.mono (by omega)
  have hu66 := hr.un
  have hu64 : (A.deeper (PyProof.Rows.envOfC "_law_several" (defScope s_law_several) s.heap.objs.size T.a__law_several cdv)).units + 64 < cLine := by omega
  have hu1 : (A.deeper (PyProof.Rows.envOfC "_law_several" (defScope s_law_several) s.heap.objs.size T.a__law_several cdv)).units + 1 < cLine := by omega
  have hu67 : (A.deeper (PyProof.Rows.envOfC "_law_several" (defScope s_law_several) s.heap.objs.size T.a__law_several cdv)).units + 67 < cLine := by omega
  replace hu66 : (A.deeper (PyProof.Rows.envOfC "_law_several" (defScope s_law_several) s.heap.objs.size T.a__law_several cdv)).units + 66 < cLine := by omega
  exact (sb_cons (And.right (ss_setComp 4 rfl nd rfl rfl (sw_true rfl rfl rfl (by decide +kernel)) (si_range1 rfl T.z_range (sa_cons (se_call (O.o__law_draw) hk (pas_of (takes_of rfl rfl rfl rfl)) rfl T.m__law_draw T.F__law_draw.kp T.b__law_draw (sa_cons (se_var 0) (sa_cons se_int sa_nil))) sa_nil)) (blkOk_by (own := [("_law_k", 10)]) (N := n_law_several) (sc := defScope s_law_several) (by decide +kernel)) (fun _ _ _ _ _ => (sg_name 10 nd rfl (by first | exact Or.inl rfl | exact Or.inr rfl))) (fun _ _ _ _ _ => ts_nil) (fun _ _ _ _ _ => (se_call (O.o__law_desk_row) hk pas_none rfl T.m__law_desk_row T.F__law_desk_row.kp T.b__law_desk_row (sa_cons (se_var 0) (sa_cons (se_var 1) (sa_cons (se_var 2) sa_nil)))))))
    (sb_cons (ss_if (st_cmp (os_eq hu64) noX_eq (se_call (O.o__law_draw) hk (pas_of (takes_of rfl rfl rfl rfl)) rfl T.m__law_draw T.F__law_draw.kp T.b__law_draw (sa_cons (se_var 0) (sa_cons se_int sa_nil))) se_int (nomark _)) (sb_one (ss_expr (se_bm PySem.F.plainAttrs_list PySem.F.slot_list_insert PySem.F.type_list_insert ms_insert (se_var 4) (sa_cons (se_call (O.o__law_draw) hk (pas_of (takes_of rfl rfl rfl rfl)) rfl T.m__law_draw T.F__law_draw.kp T.b__law_draw (sa_cons (se_var 0) (sa_cons (se_op os_add noX_add (se_callB cs_len rfl T.z_len (by decide +kernel) (sa_cons (se_var 4) sa_nil)) se_int) sa_nil))) (sa_cons (se_call (O.o__law_bad) hk (pas_of (takes_of rfl rfl rfl rfl)) rfl T.m__law_bad T.F__law_bad.kp T.b__law_bad (sa_cons (se_var 0) (sa_cons (se_var 1) sa_nil))) sa_nil))))) sb_nil)
    (sb_cons (ss_set 5 nd rfl (by first | exact Or.inl rfl | exact Or.inr rfl) (SimL.loc (sl_lst (sa_cons (se_var 3) sa_nil))))
    (sb_cons (ss_ice 4 (ss_for (passes_of rfl) rfl (si_enumA rfl T.z_enumerate (sa_cons (se_var 4) sa_nil)) (sg_tup rfl (sg_cons (sg_name 6 nd rfl (by first | exact Or.inl rfl | exact Or.inr rfl)) (sg_cons (sg_name 7 nd rfl (by first | exact Or.inl rfl | exact Or.inr rfl)) sg_nil))) (sb_cons (ss_if (SimW.t (sw_or (st_not (st_val (se_callB cs_isi rfl T.z_isinstance (by decide +kernel) (sa_cons (se_var 7) (sa_cons (se_ty "tuple" rfl T.z_tuple (by decide +kernel)) sa_nil))))) (sw_or1 (st_cmp (os_nin hu66) noX_nin (se_slice (se_var 7) so_none (so_some se_int)) (SimL.val (sl_lst (sa_cons (se_tup (sa_cons se_str sa_nil)) (sa_cons (se_tup (sa_cons se_str sa_nil)) (sa_cons (se_tup (sa_cons se_str sa_nil)) sa_nil))))) (by rfl))))) (sb_one (ss_ret (se_tup (sa_cons (se_var 4) (sa_cons (SimL.val (sl_lst sa_nil)) (sa_cons (se_tup (sa_cons se_str (sa_cons (se_var 6) sa_nil))) sa_nil)))))) sb_nil)
    (sb_cons (ss_set 8 nd rfl (by first | exact Or.inl rfl | exact Or.inr rfl) (se_and (se_cmp (os_eq hu64) noX_eq (se_callB cs_len rfl T.z_len (by decide +kernel) (sa_cons (se_var 7) sa_nil)) (se_if (st_cmp (os_eq hu64) noX_eq (se_ix hu1 (se_var 7) se_int) se_str (nomark _)) se_int se_int) (nomark _)) (se_one (se_cmp (os_in hu66) noX_in (se_ix hu1 (se_var 7) se_int) (se_var 1) (by rfl)))))
    (sb_cons (ss_if (SimW.t (sw_and (st_val (se_var 8)) (sw_and1 (st_cmp (os_eq hu64) noX_eq (se_ix hu1 (se_var 7) se_int) se_str (nomark _))))) (sb_cons (ss_set 8 nd rfl (by first | exact Or.inl rfl | exact Or.inr rfl) (se_and (se_cmp (os_in hu66) noX_in (se_ix hu1 (se_var 7) se_int) (se_tup (sa_cons se_str (sa_cons se_str sa_nil))) (by rfl)) (se_one (se_callB cs_isi rfl T.z_isinstance (by decide +kernel) (sa_cons (se_ix hu1 (se_var 7) se_int) (sa_cons (se_ty "tuple" rfl T.z_tuple (by decide +kernel)) sa_nil))))))
    (sb_one (ss_set 8 nd rfl (by first | exact Or.inl rfl | exact Or.inr rfl) (se_and (se_var 8) (se_one (se_cmp (os_nin hu66) noX_nin (se_ix hu1 (se_var 7) se_int) (SimL.val (sl_lst (sa_cons (se_tup (sa_cons se_str (sa_cons se_str sa_nil))) (sa_cons (se_tup sa_nil) (sa_cons (se_tup (sa_cons se_str (sa_cons (se_tup (sa_cons se_str sa_nil)) sa_nil))) sa_nil))))) (by rfl))))))) sb_nil)
    (sb_cons (ss_if (st_not (st_val (se_var 8))) (sb_one (ss_ret (se_tup (sa_cons (se_var 4) (sa_cons (SimL.val (sl_lst sa_nil)) (sa_cons (se_tup (sa_cons se_str (sa_cons (se_var 6) sa_nil))) sa_nil)))))) sb_nil)
    (sb_cons (ss_set 9 nd rfl (by first | exact Or.inl rfl | exact Or.inr rfl) (se_call (O.o__law_after) hk (pas_of (takes_of rfl rfl rfl rfl)) rfl T.m__law_after T.F__law_after.kp T.b__law_after (sa_cons (se_ix hu1 (se_var 5) (se_un us_neg se_int)) (sa_cons (se_var 7) sa_nil))))
    (sb_cons (ss_if (st_cmp os_is noX_is (se_var 9) se_non (nomark _)) (sb_one (ss_ret (se_tup (sa_cons (se_var 4) (sa_cons (SimL.val (sl_lst sa_nil)) (sa_cons (se_tup (sa_cons se_str (sa_cons (se_ix hu1 (se_var 7) se_int) sa_nil))) sa_nil)))))) sb_nil)
    (sb_one (ss_expr (se_bm PySem.F.plainAttrs_list PySem.F.slot_list_append PySem.F.type_list_append ms_append (se_var 5) (sa_cons (se_var 9) sa_nil))))))))))))
    (sb_one (ss_ret (se_tup (sa_cons (se_var 4) (sa_cons (se_slice (se_var 5) (so_some se_int) so_none) (sa_cons se_non sa_nil))))))))))
set_option maxHeartbeats 4000000 in
theorem sim_law_many {k : Nat} (T : Txt w K mg) (O : Oks P base T k) (cdv : Value) (A : Around) (outer : List Env) (s : Shared) (H : Hp) (E : XK) (hr : Room (2 * k + 3) (A.deeper (PyProof.Rows.envOfC "_law_many" (defScope s_law_many) s.heap.objs.size T.a__law_many cdv))) :
    SimB (cxOf (L2.CX P w) P w K mg base n_law_many "_law_many" (defScope s_law_many) T.a__law_many cdv A outer s H E) (fun cls d _ H2 => E cls d H2) (defBody s_law_many) (b_law_many (call k)) := by
  have nd := sc_law_many.nd
  have hk : Room (2 * k + 2) (A.deeper (PyProof.Rows.envOfC "_law_many" (defScope s_law_many) s.heap.objs.size T.a__law_many cdv)) := hr.mono (by omega)
  have hu66 := hr.un
  have hu64 : (A.deeper (PyProof.Rows.envOfC "_law_many" (defScope s_law_many) s.heap.objs.size T.a__law_many cdv)).units + 64 < cLine := by omega
  have hu1 : (A.deeper (PyProof.Rows.envOfC "_law_many" (defScope s_law_many) s.heap.objs.size T.a__law_many cdv)).units + 1 < cLine := by omega
  have hu67 : (A.deeper (PyProof.Rows.envOfC "_law_many" (defScope s_law_many) s.heap.objs.size T.a__law_many cdv)).units + 67 < cLine := by omega
  replace hu66 : (A.deeper (PyProof.Rows.envOfC "_law_many" (defScope s_law_many) s.heap.objs.size T.a__law_many cdv)).units + 66 < cLine := by omega
  exact (sb_cons (ss_expr (se_meth (O.o_Desk_put) hk (pas_of (takes_of rfl rfl rfl rfl)) T.mc_Desk T.cl_Desk T.me_Desk_put T.b_Desk_put (se_var 0) (sa_cons (se_var 1) (sa_cons se_str (sa_cons (se_tup (sa_cons se_str sa_nil)) sa_nil)))))
    (sb_cons (ss_for (passes_of rfl) rfl (si_range1 rfl T.z_range (sa_cons (se_var 3) sa_nil)) (sg_name 4 nd rfl (by first | exact Or.inl rfl | exact Or.inr rfl)) (sb_one (ss_expr (se_meth (O.o_Desk_move) hk (pas_of (takes_of rfl rfl rfl rfl)) T.mc_Desk T.cl_Desk T.me_Desk_move T.b_Desk_move (se_var 0) (sa_cons (se_var 1) sa_nil)))))
    (sb_cons (ss_if (SimW.t (sw_or (st_cmp (os_ne hu64) noX_ne (se_meth0 (O.o_Desk_labels) hk (pas_of (takes_of rfl rfl rfl rfl)) T.mc_Desk T.cl_Desk T.me_Desk_labels T.b_Desk_labels (se_var 0)) (SimL.val (sl_lst (sa_cons (se_tup (sa_cons (se_var 1) (sa_cons (se_ix hu1 (SimL.val (sl_lst (sa_cons se_str (sa_cons se_str sa_nil)))) (se_op os_mod noX_mod (se_var 3) se_int)) sa_nil))) sa_nil))) (nomark _)) (sw_or1 (st_cmp (os_ne hu64) noX_ne (se_meth0 (O.o_Desk_deeds) hk (pas_of (takes_of rfl rfl rfl rfl)) T.mc_Desk T.cl_Desk T.me_Desk_deeds T.b_Desk_deeds (se_var 0)) (se_op os_add noX_add (se_op os_add noX_add (se_var 2) (se_var 3)) se_int) (nomark _))))) (sb_one (ss_ret se_bl)) sb_nil)
    (sb_cons (ss_for (passes_of rfl) rfl (si_range1 rfl T.z_range (sa_cons (se_var 3) sa_nil)) (sg_name 4 nd rfl (by first | exact Or.inl rfl | exact Or.inr rfl)) (sb_cons (ss_expr (se_meth0 (O.o_Desk_undo) hk (pas_of (takes_of rfl rfl rfl rfl)) T.mc_Desk T.cl_Desk T.me_Desk_undo T.b_Desk_undo (se_var 0)))
    (sb_one (ss_if (st_cmp (os_ne hu64) noX_ne (se_meth0 (O.o_Desk_labels) hk (pas_of (takes_of rfl rfl rfl rfl)) T.mc_Desk T.cl_Desk T.me_Desk_labels T.b_Desk_labels (se_var 0)) (SimL.val (sl_lst (sa_cons (se_tup (sa_cons (se_var 1) (sa_cons (se_ix hu1 (SimL.val (sl_lst (sa_cons se_str (sa_cons se_str sa_nil)))) (se_op os_mod noX_mod (se_op os_sub noX_sub (se_op os_sub noX_sub (se_var 3) (se_var 4)) se_int) se_int)) sa_nil))) sa_nil))) (nomark _)) (sb_one (ss_ret se_bl)) sb_nil))))
    (sb_cons (ss_expr (se_meth0 (O.o_Desk_undo) hk (pas_of (takes_of rfl rfl rfl rfl)) T.mc_Desk T.cl_Desk T.me_Desk_undo T.b_Desk_undo (se_var 0)))
    (sb_one (ss_ret (se_and (se_cmp (os_eq hu64) noX_eq (se_meth0 (O.o_Desk_labels) hk (pas_of (takes_of rfl rfl rfl rfl)) T.mc_Desk T.cl_Desk T.me_Desk_labels T.b_Desk_labels (se_var 0)) (SimL.val (sl_lst sa_nil)) (nomark _)) (se_one (se_cmp (os_eq hu64) noX_eq (se_call (O.o__law_told) hk (pas_of (takes_of rfl rfl rfl rfl)) rfl T.m__law_told T.F__law_told.kp T.b__law_told (sa_cons (se_var 0) (sa_cons se_str (sa_cons (se_tup sa_nil) sa_nil)))) (se_tup (sa_cons se_str (sa_cons se_str sa_nil))) (nomark _)))))))))))
set_option maxHeartbeats 4000000 in
theorem sim_law {k : Nat} (T : Txt w K mg) (O : Oks P base T k) (cdv : Value) (A : Around) (outer : List Env) (s : Shared) (H : Hp) (E : XK) (hr : Room (2 * k + 3) (A.deeper (PyProof.Rows.envOfC "law" (defScope s_law) s.heap.objs.size T.a_law cdv))) :
    SimB (cxOf (L2.CX P w) P w K mg base n_law "law" (defScope s_law) T.a_law cdv A outer s H E) (fun cls d _ H2 => E cls d H2) (defBody s_law) (b_law (call k)) := by
  have nd := sc_law.nd
  have hk : Room (2 * k + 2) (A.deeper (PyProof.Rows.envOfC "law" (defScope s_law) s.heap.objs.size T.a_law cdv)) := hr.mono (by omega)
  have hu66 := hr.un
  have hu64 : (A.deeper (PyProof.Rows.envOfC "law" (defScope s_law) s.heap.objs.size T.a_law cdv)).units + 64 < cLine := by omega
  have hu1 : (A.deeper (PyProof.Rows.envOfC "law" (defScope s_law) s.heap.objs.size T.a_law cdv)).units + 1 < cLine := by omega
  have hu67 : (A.deeper (PyProof.Rows.envOfC "law" (defScope s_law) s.heap.objs.size T.a_law cdv)).units + 67 < cLine := by omega
  replace hu66 : (A.deeper (PyProof.Rows.envOfC "law" (defScope s_law) s.heap.objs.size T.a_law cdv)).units + 66 < cLine := by omega
  exact (sb_cons (ss_set 1 nd rfl (by first | exact Or.inl rfl | exact Or.inr rfl) (se_call (O.o__law_tape) hk (pas_of (takes_of rfl rfl rfl rfl)) rfl T.m__law_tape T.F__law_tape.kp T.b__law_tape (sa_cons (se_var 0) sa_nil)))
    (sb_cons (ss_set 2 nd rfl (by first | exact Or.inl rfl | exact Or.inr rfl) (se_call (O.o__law_words) hk (pas_of (takes_of rfl rfl rfl rfl)) rfl T.m__law_words T.F__law_words.kp T.b__law_words (sa_cons (se_var 1) (sa_cons se_int sa_nil))))
    (sb_cons (And.left (ss_setComp 3 rfl nd rfl rfl (sw_true rfl rfl rfl (by decide +kernel)) (si_range1 rfl T.z_range (sa_cons se_int sa_nil)) (blkOk_by (own := [("_law_k", 9)]) (N := n_law) (sc := defScope s_law) (by decide +kernel)) (fun _ _ _ _ _ => (sg_name 9 nd rfl (by first | exact Or.inl rfl | exact Or.inr rfl))) (fun _ _ _ _ _ => ts_nil) (fun _ _ _ _ _ => (se_call (O.o__law_saying) hk pas_none rfl T.m__law_saying T.F__law_saying.kp T.b__law_saying (sa_cons (se_var 1) (sa_cons (se_slice (se_var 2) (so_some se_int) so_none) (sa_cons (SimL.loc (sl_lst (sa_cons se_int sa_nil))) (sa_cons se_int sa_nil))))))))
    (sb_cons (ss_set 4 nd rfl (by first | exact Or.inl rfl | exact Or.inr rfl) (se_make0 (O.o_Desk___init__) (hr.mono (by omega)) (pas_of (takes_of rfl rfl rfl rfl)) rfl T.mc_Desk T.mk_Desk T.b_Desk___init__))
    (sb_cons (ss_set 5 nd rfl (by first | exact Or.inl rfl | exact Or.inr rfl) (SimL.loc (sl_lst (sa_cons (SimD.val sd_new) sa_nil))))
    (sb_cons (ss_set 6 nd rfl (by first | exact Or.inl rfl | exact Or.inr rfl) se_int)
    (sb_cons (ss_for (passes_of rfl) rfl (si_range1 rfl T.z_range (sa_cons (se_call (O.o__law_draw) hk (pas_of (takes_of rfl rfl rfl rfl)) rfl T.m__law_draw T.F__law_draw.kp T.b__law_draw (sa_cons (se_var 1) (sa_cons se_int sa_nil))) sa_nil)) (sg_name 7 nd rfl (by first | exact Or.inl rfl | exact Or.inr rfl)) (sb_cons (ss_set 8 nd rfl (by first | exact Or.inl rfl | exact Or.inr rfl) (se_call (O.o__law_draw) hk (pas_of (takes_of rfl rfl rfl rfl)) rfl T.m__law_draw T.F__law_draw.kp T.b__law_draw (sa_cons (se_var 1) (sa_cons se_int sa_nil))))
    (sb_cons (ss_if (st_cmp (os_eq hu64) noX_eq (se_var 8) se_int (nomark _)) (sb_cons (ss_set 10 nd rfl (by first | exact Or.inl rfl | exact Or.inr rfl) (se_if (st_cmp os_gt noX_gt (se_callB cs_len rfl T.z_len (by decide +kernel) (sa_cons (se_var 5) sa_nil)) se_int (nomark _)) se_non (se_tup (sa_cons se_str (sa_cons se_str sa_nil)))))
    (sb_cons (ss_if (st_cmp (os_ne hu64) noX_ne (se_call (O.o__law_told) hk (pas_of (takes_of rfl rfl rfl rfl)) rfl T.m__law_told T.F__law_told.kp T.b__law_told (sa_cons (se_var 4) (sa_cons se_str (sa_cons (se_tup sa_nil) sa_nil)))) (se_var 10) (nomark _)) (sb_one (ss_ret se_bl)) sb_nil)
    (sb_cons (ss_set 6 nd rfl (by first | exact Or.inl rfl | exact Or.inr rfl) (se_op os_add noX_add (se_var 6) (se_callTy cs_int rfl T.z_int (by decide +kernel) (sa_cons (se_cmp os_is noX_is (se_var 10) se_non (nomark _)) sa_nil))))
    (sb_one (ss_set 5 nd rfl (by first | exact Or.inl rfl | exact Or.inr rfl) (SimL.loc (sl_slice (se_var 5) so_none (so_some (se_callB (cs_max rfl) rfl T.z_max (by decide +kernel) (sa_cons se_int (sa_cons (se_op os_sub noX_sub (se_callB cs_len rfl T.z_len (by decide +kernel) (sa_cons (se_var 5) sa_nil)) se_int) sa_nil))))))))))) (sb_one (ss_if (st_cmp (os_eq hu64) noX_eq (se_var 8) se_int (nomark _)) (sb_cons (ss_asg (se_call (O.o__law_several) hk (pas_of (takes_of rfl rfl rfl rfl)) rfl T.m__law_several T.F__law_several.kp T.b__law_several (sa_cons (se_var 1) (sa_cons (se_slice (se_var 2) so_none (so_some se_int)) (sa_cons (se_var 3) (sa_cons (se_ix hu1 (se_var 5) (se_un us_neg se_int)) sa_nil))))) (sg_tup rfl (sg_cons (sg_name 11 nd rfl (by first | exact Or.inl rfl | exact Or.inr rfl)) (sg_cons (sg_name 12 nd rfl (by first | exact Or.inl rfl | exact Or.inr rfl)) (sg_cons (sg_name 10 nd rfl (by first | exact Or.inl rfl | exact Or.inr rfl)) sg_nil)))))
    (sb_cons (ss_set 13 nd rfl (by first | exact Or.inl rfl | exact Or.inr rfl) (SimL.val (sl_callTy cl_list rfl T.z_list (by decide +kernel) (sa_cons (se_var 11) sa_nil))))
    (sb_cons (ss_if (SimW.t (sw_or (st_cmp (os_ne hu64) noX_ne (se_call (O.o__law_told) hk (pas_of (takes_of rfl rfl rfl rfl)) rfl T.m__law_told T.F__law_told.kp T.b__law_told (sa_cons (se_var 4) (sa_cons se_str (sa_cons (se_var 11) sa_nil)))) (se_var 10) (nomark _)) (sw_or1 (st_cmp (os_ne hu64) noX_ne (se_var 11) (se_var 13) (nomark _))))) (sb_one (ss_ret se_bl)) sb_nil)
    (sb_cons (ss_set 5 nd rfl (by first | exact Or.inl rfl | exact Or.inr rfl) (SimL.loc (sl_add (se_var 5) (se_var 12))))
    (sb_one (ss_set 6 nd rfl (by first | exact Or.inl rfl | exact Or.inr rfl) (se_op os_add noX_add (se_var 6) (se_callB cs_len rfl T.z_len (by decide +kernel) (sa_cons (se_var 12) sa_nil))))))))) (sb_cons (ss_set 14 nd rfl (by first | exact Or.inl rfl | exact Or.inr rfl) (se_call (O.o__law_desk_row) hk (pas_of (takes_of rfl rfl rfl rfl)) rfl T.m__law_desk_row T.F__law_desk_row.kp T.b__law_desk_row (sa_cons (se_var 1) (sa_cons (se_slice (se_var 2) so_none (so_some se_int)) (sa_cons (se_var 3) sa_nil)))))
    (sb_cons (ss_set 12 nd rfl (by first | exact Or.inl rfl | exact Or.inr rfl) (se_call (O.o__law_after) hk (pas_of (takes_of rfl rfl rfl rfl)) rfl T.m__law_after T.F__law_after.kp T.b__law_after (sa_cons (se_ix hu1 (se_var 5) (se_un us_neg se_int)) (sa_cons (se_var 14) sa_nil))))
    (sb_cons (ss_if (st_cmp (os_ne hu64) noX_ne (se_call (O.o__law_told) hk (pas_of (takes_of rfl rfl rfl rfl)) rfl T.m__law_told T.F__law_told.kp T.b__law_told (sa_cons (se_var 4) (sa_cons (se_ix hu1 (se_var 14) se_int) (sa_cons (se_var 14) sa_nil)))) (se_if (st_cmp os_is noX_is (se_var 12) se_non (nomark _)) (se_tup (sa_cons se_str (sa_cons (se_ix hu1 (se_var 14) se_int) sa_nil))) se_non) (nomark _)) (sb_one (ss_ret se_bl)) sb_nil)
    (sb_cons (ss_set 5 nd rfl (by first | exact Or.inl rfl | exact Or.inr rfl) (SimL.loc (sl_add (se_var 5) (SimL.val (sl_comp rfl nd (si_list (SimL.val (sl_lst (sa_cons (se_var 12) sa_nil)))) (blkOk_by (own := [("_law_one", 15)]) (N := n_law) (sc := defScope s_law) (by decide +kernel)) (fun _ _ _ _ _ => (sg_name 15 nd rfl (by first | exact Or.inl rfl | exact Or.inr rfl))) (fun _ _ _ _ _ => (ts_one (st_cmp os_isn noX_isn (se_var 15) se_non (nomark _)))) (fun _ _ _ _ _ => (se_var 15)))))))
    (sb_one (ss_set 6 nd rfl (by first | exact Or.inl rfl | exact Or.inr rfl) (se_op os_add noX_add (se_var 6) (se_callTy cs_int rfl T.z_int (by decide +kernel) (sa_cons (se_cmp os_isn noX_isn (se_var 12) se_non (nomark _)) sa_nil))))))))))))
    (sb_one (ss_if (st_not (st_val (se_call (O.o__law_right) hk (pas_of (takes_of rfl rfl rfl rfl)) rfl T.m__law_right T.F__law_right.kp T.b__law_right (sa_cons (se_var 4) (sa_cons (se_var 5) (sa_cons (se_var 6) sa_nil)))))) (sb_one (ss_ret se_bl)) sb_nil)))))
    (sb_cons (ss_while 1000000 (passes_of rfl) (st_cmp os_gt noX_gt (se_callB cs_len rfl T.z_len (by decide +kernel) (sa_cons (se_var 5) sa_nil)) se_int (nomark _)) (sb_cons (ss_expr (se_bm0 PySem.F.plainAttrs_list PySem.F.slot_list_pop PySem.F.type_list_pop ms_popL (se_var 5)))
    (sb_cons (ss_set 6 nd rfl (by first | exact Or.inl rfl | exact Or.inr rfl) (se_op os_add noX_add (se_var 6) se_int))
    (sb_one (ss_if (SimW.t (sw_or (st_cmp os_isn noX_isn (se_call (O.o__law_told) hk (pas_of (takes_of rfl rfl rfl rfl)) rfl T.m__law_told T.F__law_told.kp T.b__law_told (sa_cons (se_var 4) (sa_cons se_str (sa_cons (se_tup sa_nil) sa_nil)))) se_non (nomark _)) (sw_or1 (st_not (st_val (se_call (O.o__law_right) hk (pas_of (takes_of rfl rfl rfl rfl)) rfl T.m__law_right T.F__law_right.kp T.b__law_right (sa_cons (se_var 4) (sa_cons (se_var 5) (sa_cons (se_var 6) sa_nil))))))))) (sb_one (ss_ret se_bl)) sb_nil)))))
    (sb_cons (ss_if (st_cmp (os_ne hu64) noX_ne (se_call (O.o__law_told) hk (pas_of (takes_of rfl rfl rfl rfl)) rfl T.m__law_told T.F__law_told.kp T.b__law_told (sa_cons (se_var 4) (sa_cons se_str (sa_cons (se_tup sa_nil) sa_nil)))) (se_tup (sa_cons se_str (sa_cons se_str sa_nil))) (nomark _)) (sb_one (ss_ret se_bl)) sb_nil)
    (sb_one (ss_ret (se_call (O.o__law_many) hk (pas_of (takes_of rfl rfl rfl rfl)) rfl T.m__law_many T.F__law_many.kp T.b__law_many (sa_cons (se_var 4) (sa_cons (se_ix hu1 (se_var 2) se_int) (sa_cons (se_var 6) (sa_cons (se_op os_add noX_add se_int (se_call (O.o__law_draw) hk (pas_of (takes_of rfl rfl rfl rfl)) rfl T.m__law_draw T.F__law_draw.kp T.b__law_draw (sa_cons (se_var 1) (sa_cons se_int sa_nil)))) sa_nil))))))))))))))))
set_option maxHeartbeats 4000000 in
theorem sim_Desk___init__ {k : Nat} (T : Txt w K mg) (O : Oks P base T k) (cdv : Value) (A : Around) (outer : List Env) (s : Shared) (H : Hp) (E : XK) (hr : Room (2 * k + 3) (A.deeper (PyProof.Rows.envOfC "Desk.__init__" (defScope s_Desk___init__) s.heap.objs.size T.a_Desk___init__ cdv))) :
    SimB (cxOf (L2.CX P w) P w K mg base n_Desk___init__ "Desk.__init__" (defScope s_Desk___init__) T.a_Desk___init__ cdv A outer s H E) (fun cls d _ H2 => E cls d H2) (defBody s_Desk___init__) (b_Desk___init__ (call k)) := by
  have nd := sc_Desk___init__.nd
  have hk : Room (2 * k + 2) (A.deeper (PyProof.Rows.envOfC "Desk.__init__" (defScope s_Desk___init__) s.heap.objs.size T.a_Desk___init__ cdv)) := hr.mono (by omega)
  have hu66 := hr.un
  have hu64 : (A.deeper (PyProof.Rows.envOfC "Desk.__init__" (defScope s_Desk___init__) s.heap.objs.size T.a_Desk___init__ cdv)).units + 64 < cLine := by omega
  have hu1 : (A.deeper (PyProof.Rows.envOfC "Desk.__init__" (defScope s_Desk___init__) s.heap.objs.size T.a_Desk___init__ cdv)).units + 1 < cLine := by omega
  have hu67 : (A.deeper (PyProof.Rows.envOfC "Desk.__init__" (defScope s_Desk___init__) s.heap.objs.size T.a_Desk___init__ cdv)).units + 67 < cLine := by omega
  replace hu66 : (A.deeper (PyProof.Rows.envOfC "Desk.__init__" (defScope s_Desk___init__) s.heap.objs.size T.a_Desk___init__ cdv)).units + 66 < cLine := by omega
  exact (sb_cons (ss_putF T.mc_Desk T.cl_Desk T.na_Desk_there (se_var 0) (SimD.loc sd_new))
    (sb_cons (ss_putF T.mc_Desk T.cl_Desk T.na_Desk_ahead (se_var 0) (SimL.loc (sl_lst sa_nil)))
    (sb_cons (ss_putF T.mc_Desk T.cl_Desk T.na_Desk_many (se_var 0) se_int)
    (sb_one (ss_putF T.mc_Desk T.cl_Desk T.na_Desk_known (se_var 0) (SimD.loc sd_new))))))
set_option maxHeartbeats 4000000 in
theorem sim_Desk_note {k : Nat} (T : Txt w K mg) (O : Oks P base T k) (cdv : Value) (A : Around) (outer : List Env) (s : Shared) (H : Hp) (E : XK) (hr : Room (2 * k + 3) (A.deeper (PyProof.Rows.envOfC "Desk.note" (defScope s_Desk_note) s.heap.objs.size T.a_Desk_note cdv))) :
    SimB (cxOf (L2.CX P w) P w K mg base n_Desk_note "Desk.note" (defScope s_Desk_note) T.a_Desk_note cdv A outer s H E) (fun cls d _ H2 => E cls d H2) (defBody s_Desk_note) (b_Desk_note (call k)) := by
  have nd := sc_Desk_note.nd
  have hk : Room (2 * k + 2) (A.deeper (PyProof.Rows.envOfC "Desk.note" (defScope s_Desk_note) s.heap.objs.size T.a_Desk_note cdv)) := hr.mono (by omega)
  have hu66 := hr.un
  have hu64 : (A.deeper (PyProof.Rows.envOfC "Desk.note" (defScope s_Desk_note) s.heap.objs.size T.a_Desk_note cdv)).units + 64 < cLine := by omega
  have hu1 : (A.deeper (PyProof.Rows.envOfC "Desk.note" (defScope s_Desk_note) s.heap.objs.size T.a_Desk_note cdv)).units + 1 < cLine := by omega
  have hu67 : (A.deeper (PyProof.Rows.envOfC "Desk.note" (defScope s_Desk_note) s.heap.objs.size T.a_Desk_note cdv)).units + 67 < cLine := by omega
  replace hu66 : (A.deeper (PyProof.Rows.envOfC "Desk.note" (defScope s_Desk_note) s.heap.objs.size T.a_Desk_note cdv)).units + 66 < cLine := by omega
  exact (sb_cons (ss_expr (se_bm PySem.F.plainAttrs_list PySem.F.slot_list_append PySem.F.type_list_append ms_append (se_get T.mc_Desk T.cl_Desk T.na_Desk_ahead (se_var 0)) (sa_cons (se_get T.mc_Desk T.cl_Desk T.na_Desk_there (se_var 0)) sa_nil)))
    (sb_cons (ss_putF T.mc_Desk T.cl_Desk T.na_Desk_there (se_var 0) (se_var 1))
    (sb_cons (ss_putF T.mc_Desk T.cl_Desk T.na_Desk_many (se_var 0) (se_op os_add noX_add (se_get T.mc_Desk T.cl_Desk T.na_Desk_many (se_var 0)) se_int))
    (sb_one (ss_putF T.mc_Desk T.cl_Desk T.na_Desk_known (se_var 0) (SimD.loc sd_new))))))
set_option maxHeartbeats 4000000 in
theorem sim_Desk_put {k : Nat} (T : Txt w K mg) (O : Oks P base T k) (cdv : Value) (A : Around) (outer : List Env) (s : Shared) (H : Hp) (E : XK) (hr : Room (2 * k + 3) (A.deeper (PyProof.Rows.envOfC "Desk.put" (defScope s_Desk_put) s.heap.objs.size T.a_Desk_put cdv))) :
    SimB (cxOf (L2.CX P w) P w K mg base n_Desk_put "Desk.put" (defScope s_Desk_put) T.a_Desk_put cdv A outer s H E) (fun cls d _ H2 => E cls d H2) (defBody s_Desk_put) (b_Desk_put (call k)) := by
  have nd := sc_Desk_put.nd
  have hk : Room (2 * k + 2) (A.deeper (PyProof.Rows.envOfC "Desk.put" (defScope s_Desk_put) s.heap.objs.size T.a_Desk_put cdv)) := hr.mono (by omega)
  have hu66 := hr.un
  have hu64 : (A.deeper (PyProof.Rows.envOfC "Desk.put" (defScope s_Desk_put) s.heap.objs.size T.a_Desk_put cdv)).units + 64 < cLine := by omega
  have hu1 : (A.deeper (PyProof.Rows.envOfC "Desk.put" (defScope s_Desk_put) s.heap.objs.size T.a_Desk_put cdv)).units + 1 < cLine := by omega
  have hu67 : (A.deeper (PyProof.Rows.envOfC "Desk.put" (defScope s_Desk_put) s.heap.objs.size T.a_Desk_put cdv)).units + 67 < cLine := by omega
  replace hu66 : (A.deeper (PyProof.Rows.envOfC "Desk.put" (defScope s_Desk_put) s.heap.objs.size T.a_Desk_put cdv)).units + 66 < cLine := by omega
  exact (sb_cons (ss_if (st_cmp (os_in hu66) noX_in (se_var 1) (se_get T.mc_Desk T.cl_Desk T.na_Desk_there (se_var 0)) (by rfl)) (sb_one (ss_raise (xk_NoLabel T) (hr.mono (by omega)) rfl (takes_of rfl rfl rfl rfl) rfl (sa_cons (se_var 1) sa_nil))) sb_nil)
    (sb_cons (ss_set 4 nd rfl (by first | exact Or.inl rfl | exact Or.inr rfl) (SimD.loc (sd_callTy dictC_noX (cd_dict rfl) rfl T.z_dict (by decide +kernel) (sa_cons (se_get T.mc_Desk T.cl_Desk T.na_Desk_there (se_var 0)) sa_nil))))
    (sb_cons (ss_store hu1 (se_tup (sa_cons (se_var 2) (sa_cons (se_var 3) sa_nil))) (se_var 4) (se_var 1))
    (sb_one (ss_expr (se_meth (O.o_Desk_note) hk (pas_of (takes_of rfl rfl rfl rfl)) T.mc_Desk T.cl_Desk T.me_Desk_note T.b_Desk_note (se_var 0) (sa_cons (se_var 4) sa_nil)))))))
set_option maxHeartbeats 4000000 in
theorem sim_Desk_need {k : Nat} (T : Txt w K mg) (O : Oks P base T k) (cdv : Value) (A : Around) (outer : List Env) (s : Shared) (H : Hp) (E : XK) (hr : Room (2 * k + 3) (A.deeper (PyProof.Rows.envOfC "Desk.need" (defScope s_Desk_need) s.heap.objs.size T.a_Desk_need cdv))) :
    SimB (cxOf (L2.CX P w) P w K mg base n_Desk_need "Desk.need" (defScope s_Desk_need) T.a_Desk_need cdv A outer s H E) (fun cls d _ H2 => E cls d H2) (defBody s_Desk_need) (b_Desk_need (call k)) := by
  have nd := sc_Desk_need.nd
  have hk : Room (2 * k + 2) (A.deeper (PyProof.Rows.envOfC "Desk.need" (defScope s_Desk_need) s.heap.objs.size T.a_Desk_need cdv)) := hr.mono (by omega)
  have hu66 := hr.un
  have hu64 : (A.deeper (PyProof.Rows.envOfC "Desk.need" (defScope s_Desk_need) s.heap.objs.size T.a_Desk_need cdv)).units + 64 < cLine := by omega
  have hu1 : (A.deeper (PyProof.Rows.envOfC "Desk.need" (defScope s_Desk_need) s.heap.objs.size T.a_Desk_need cdv)).units + 1 < cLine := by omega
  have hu67 : (A.deeper (PyProof.Rows.envOfC "Desk.need" (defScope s_Desk_need) s.heap.objs.size T.a_Desk_need cdv)).units + 67 < cLine := by omega
  replace hu66 : (A.deeper (PyProof.Rows.envOfC "Desk.need" (defScope s_Desk_need) s.heap.objs.size T.a_Desk_need cdv)).units + 66 < cLine := by omega
  exact (sb_one (ss_if (st_cmp (os_nin hu66) noX_nin (se_var 1) (se_get T.mc_Desk T.cl_Desk T.na_Desk_there (se_var 0)) (by rfl)) (sb_one (ss_raise (xk_NoLabel T) (hr.mono (by omega)) rfl (takes_of rfl rfl rfl rfl) rfl (sa_cons (se_var 1) sa_nil))) sb_nil))
set_option maxHeartbeats 4000000 in
theorem sim_Desk_drop {k : Nat} (T : Txt w K mg) (O : Oks P base T k) (cdv : Value) (A : Around) (outer : List Env) (s : Shared) (H : Hp) (E : XK) (hr : Room (2 * k + 3) (A.deeper (PyProof.Rows.envOfC "Desk.drop" (defScope s_Desk_drop) s.heap.objs.size T.a_Desk_drop cdv))) :
    SimB (cxOf (L2.CX P w) P w K mg base n_Desk_drop "Desk.drop" (defScope s_Desk_drop) T.a_Desk_drop cdv A outer s H E) (fun cls d _ H2 => E cls d H2) (defBody s_Desk_drop) (b_Desk_drop (call k)) := by
  have nd := sc_Desk_drop.nd
  have hk : Room (2 * k + 2) (A.deeper (PyProof.Rows.envOfC "Desk.drop" (defScope s_Desk_drop) s.heap.objs.size T.a_Desk_drop cdv)) := hr.mono (by omega)
  have hu66 := hr.un
  have hu64 : (A.deeper (PyProof.Rows.envOfC "Desk.drop" (defScope s_Desk_drop) s.heap.objs.size T.a_Desk_drop cdv)).units + 64 < cLine := by omega
  have hu1 : (A.deeper (PyProof.Rows.envOfC "Desk.drop" (defScope s_Desk_drop) s.heap.objs.size T.a_Desk_drop cdv)).units + 1 < cLine := by omega
  have hu67 : (A.deeper (PyProof.Rows.envOfC "Desk.drop" (defScope s_Desk_drop) s.heap.objs.size T.a_Desk_drop cdv)).units + 67 < cLine := by omega
  replace hu66 : (A.deeper (PyProof.Rows.envOfC "Desk.drop" (defScope s_Desk_drop) s.heap.objs.size T.a_Desk_drop cdv)).units + 66 < cLine := by omega
  exact (sb_cons (ss_expr (se_meth (O.o_Desk_need) hk (pas_of (takes_of rfl rfl rfl rfl)) T.mc_Desk T.cl_Desk T.me_Desk_need T.b_Desk_need (se_var 0) (sa_cons (se_var 1) sa_nil)))
    (sb_one (ss_expr (se_meth (O.o_Desk_note) hk (pas_of (takes_of rfl rfl rfl rfl)) T.mc_Desk T.cl_Desk T.me_Desk_note T.b_Desk_note (se_var 0) (sa_cons (SimD.loc (sd_compR hu64 rfl nd (se_get T.mc_Desk T.cl_Desk T.na_Desk_there (se_var 0)) (blkOk_by (own := [("name", 2)]) (N := n_Desk_drop) (sc := defScope s_Desk_drop) (by decide +kernel)) (fun _ _ _ _ _ => (sg_name 2 nd rfl (by first | exact Or.inl rfl | exact Or.inr rfl))) (fun _ _ _ _ _ => (ts_one (st_cmp (os_ne hu64) noX_ne (se_var 2) (se_var 1) (nomark _)))) (fun _ _ _ _ _ => (se_var 2)) (fun _ _ _ _ _ => (se_get T.mc_Desk T.cl_Desk T.na_Desk_there (se_var 0))) (fun _ _ _ _ _ => (se_var 2)))) sa_nil)))))
set_option maxHeartbeats 4000000 in
theorem sim_Desk_move {k : Nat} (T : Txt w K mg) (O : Oks P base T k) (cdv : Value) (A : Around) (outer : List Env) (s : Shared) (H : Hp) (E : XK) (hr : Room (2 * k + 3) (A.deeper (PyProof.Rows.envOfC "Desk.move" (defScope s_Desk_move) s.heap.objs.size T.a_Desk_move cdv))) :
    SimB (cxOf (L2.CX P w) P w K mg base n_Desk_move "Desk.move" (defScope s_Desk_move) T.a_Desk_move cdv A outer s H E) (fun cls d _ H2 => E cls d H2) (defBody s_Desk_move) (b_Desk_move (call k)) := by
  have nd := sc_Desk_move.nd
  have hk : Room (2 * k + 2) (A.deeper (PyProof.Rows.envOfC "Desk.move" (defScope s_Desk_move) s.heap.objs.size T.a_Desk_move cdv)) := hr.mono (by omega)
  have hu66 := hr.un
  have hu64 : (A.deeper (PyProof.Rows.envOfC "Desk.move" (defScope s_Desk_move) s.heap.objs.size T.a_Desk_move cdv)).units + 64 < cLine := by omega
  have hu1 : (A.deeper (PyProof.Rows.envOfC "Desk.move" (defScope s_Desk_move) s.heap.objs.size T.a_Desk_move cdv)).units + 1 < cLine := by omega
  have hu67 : (A.deeper (PyProof.Rows.envOfC "Desk.move" (defScope s_Desk_move) s.heap.objs.size T.a_Desk_move cdv)).units + 67 < cLine := by omega
  replace hu66 : (A.deeper (PyProof.Rows.envOfC "Desk.move" (defScope s_Desk_move) s.heap.objs.size T.a_Desk_move cdv)).units + 66 < cLine := by omega
  exact (sb_cons (ss_expr (se_meth (O.o_Desk_need) hk (pas_of (takes_of rfl rfl rfl rfl)) T.mc_Desk T.cl_Desk T.me_Desk_need T.b_Desk_need (se_var 0) (sa_cons (se_var 1) sa_nil)))
    (sb_cons (ss_asg (se_ix hu1 (se_get T.mc_Desk T.cl_Desk T.na_Desk_there (se_var 0)) (se_var 1)) (sg_tup rfl (sg_cons (sg_name 2 nd rfl (by first | exact Or.inl rfl | exact Or.inr rfl)) (sg_cons (sg_name 3 nd rfl (by first | exact Or.inl rfl | exact Or.inr rfl)) sg_nil))))
    (sb_cons (ss_set 4 nd rfl (by first | exact Or.inl rfl | exact Or.inr rfl) (SimD.loc (sd_callTy dictC_noX (cd_dict rfl) rfl T.z_dict (by decide +kernel) (sa_cons (se_get T.mc_Desk T.cl_Desk T.na_Desk_there (se_var 0)) sa_nil))))
    (sb_cons (ss_store hu1 (se_tup (sa_cons (se_ix hu1 (se_glob rfl T.m_SIDES T.r_SIDES (fun _ => T.v_SIDES)) (se_op os_sub noX_sub se_int (se_tixg T.td_SIDES rfl T.m_SIDES (se_var 2)))) (sa_cons (se_var 3) sa_nil))) (se_var 4) (se_var 1))
    (sb_one (ss_expr (se_meth (O.o_Desk_note) hk (pas_of (takes_of rfl rfl rfl rfl)) T.mc_Desk T.cl_Desk T.me_Desk_note T.b_Desk_note (se_var 0) (sa_cons (se_var 4) sa_nil))))))))
set_option maxHeartbeats 4000000 in
theorem sim_Desk_undo {k : Nat} (T : Txt w K mg) (O : Oks P base T k) (cdv : Value) (A : Around) (outer : List Env) (s : Shared) (H : Hp) (E : XK) (hr : Room (2 * k + 3) (A.deeper (PyProof.Rows.envOfC "Desk.undo" (defScope s_Desk_undo) s.heap.objs.size T.a_Desk_undo cdv))) :
    SimB (cxOf (L2.CX P w) P w K mg base n_Desk_undo "Desk.undo" (defScope s_Desk_undo) T.a_Desk_undo cdv A outer s H E) (fun cls d _ H2 => E cls d H2) (defBody s_Desk_undo) (b_Desk_undo (call k)) := by
  have nd := sc_Desk_undo.nd
  have hk : Room (2 * k + 2) (A.deeper (PyProof.Rows.envOfC "Desk.undo" (defScope s_Desk_undo) s.heap.objs.size T.a_Desk_undo cdv)) := hr.mono (by omega)
  have hu66 := hr.un
  have hu64 : (A.deeper (PyProof.Rows.envOfC "Desk.undo" (defScope s_Desk_undo) s.heap.objs.size T.a_Desk_undo cdv)).units + 64 < cLine := by omega
  have hu1 : (A.deeper (PyProof.Rows.envOfC "Desk.undo" (defScope s_Desk_undo) s.heap.objs.size T.a_Desk_undo cdv)).units + 1 < cLine := by omega
  have hu67 : (A.deeper (PyProof.Rows.envOfC "Desk.undo" (defScope s_Desk_undo) s.heap.objs.size T.a_Desk_undo cdv)).units + 67 < cLine := by omega
  replace hu66 : (A.deeper (PyProof.Rows.envOfC "Desk.undo" (defScope s_Desk_undo) s.heap.objs.size T.a_Desk_undo cdv)).units + 66 < cLine := by omega
  exact (sb_cons (ss_if (st_cmp (os_eq hu64) noX_eq (se_callB cs_len rfl T.z_len (by decide +kernel) (sa_cons (se_get T.mc_Desk T.cl_Desk T.na_Desk_ahead (se_var 0)) sa_nil)) se_int (nomark _)) (sb_one (ss_raise (xk_NoLabel T) (hr.mono (by omega)) rfl (takes_of rfl rfl rfl rfl) rfl (sa_cons se_str sa_nil))) sb_nil)
    (sb_cons (ss_putF T.mc_Desk T.cl_Desk T.na_Desk_there (se_var 0) (se_bm0 PySem.F.plainAttrs_list PySem.F.slot_list_pop PySem.F.type_list_pop ms_popL (se_get T.mc_Desk T.cl_Desk T.na_Desk_ahead (se_var 0))))
    (sb_cons (ss_putF T.mc_Desk T.cl_Desk T.na_Desk_many (se_var 0) (se_op os_add noX_add (se_get T.mc_Desk T.cl_Desk T.na_Desk_many (se_var 0)) se_int))
    (sb_one (ss_putF T.mc_Desk T.cl_Desk T.na_Desk_known (se_var 0) (SimD.loc sd_new))))))
set_option maxHeartbeats 4000000 in
theorem sim_Desk_deeds {k : Nat} (T : Txt w K mg) (O : Oks P base T k) (cdv : Value) (A : Around) (outer : List Env) (s : Shared) (H : Hp) (E : XK) (hr : Room (2 * k + 3) (A.deeper (PyProof.Rows.envOfC "Desk.deeds" (defScope s_Desk_deeds) s.heap.objs.size T.a_Desk_deeds cdv))) :
    SimB (cxOf (L2.CX P w) P w K mg base n_Desk_deeds "Desk.deeds" (defScope s_Desk_deeds) T.a_Desk_deeds cdv A outer s H E) (fun cls d _ H2 => E cls d H2) (defBody s_Desk_deeds) (b_Desk_deeds (call k)) := by
  have nd := sc_Desk_deeds.nd
  have hk : Room (2 * k + 2) (A.deeper (PyProof.Rows.envOfC "Desk.deeds" (defScope s_Desk_deeds) s.heap.objs.size T.a_Desk_deeds cdv)) := hr.mono (by omega)
  have hu66 := hr.un
  have hu64 : (A.deeper (PyProof.Rows.envOfC "Desk.deeds" (defScope s_Desk_deeds) s.heap.objs.size T.a_Desk_deeds cdv)).units + 64 < cLine := by omega
  have hu1 : (A.deeper (PyProof.Rows.envOfC "Desk.deeds" (defScope s_Desk_deeds) s.heap.objs.size T.a_Desk_deeds cdv)).units + 1 < cLine := by omega
  have hu67 : (A.deeper (PyProof.Rows.envOfC "Desk.deeds" (defScope s_Desk_deeds) s.heap.objs.size T.a_Desk_deeds cdv)).units + 67 < cLine := by omega
  replace hu66 : (A.deeper (PyProof.Rows.envOfC "Desk.deeds" (defScope s_Desk_deeds) s.heap.objs.size T.a_Desk_deeds cdv)).units + 66 < cLine := by omega
  exact (sb_one (ss_ret (se_get T.mc_Desk T.cl_Desk T.na_Desk_many (se_var 0))))
set_option maxHeartbeats 4000000 in
theorem sim_Desk_do {k : Nat} (T : Txt w K mg) (O : Oks P base T k) (cdv : Value) (A : Around) (outer : List Env) (s : Shared) (H : Hp) (E : XK) (hr : Room (2 * k + 3) (A.deeper (PyProof.Rows.envOfC "Desk.do" (defScope s_Desk_do) s.heap.objs.size T.a_Desk_do cdv))) :
    SimB (cxOf (L2.CX P w) P w K mg base n_Desk_do "Desk.do" (defScope s_Desk_do) T.a_Desk_do cdv A outer s H E) (fun cls d _ H2 => E cls d H2) (defBody s_Desk_do) (b_Desk_do (call k)) := by
  have nd := sc_Desk_do.nd
  have hk : Room (2 * k + 2) (A.deeper (PyProof.Rows.envOfC "Desk.do" (defScope s_Desk_do) s.heap.objs.size T.a_Desk_do cdv)) := hr.mono (by omega)
  have hu66 := hr.un
  have hu64 : (A.deeper (PyProof.Rows.envOfC "Desk.do" (defScope s_Desk_do) s.heap.objs.size T.a_Desk_do cdv)).units + 64 < cLine := by omega
  have hu1 : (A.deeper (PyProof.Rows.envOfC "Desk.do" (defScope s_Desk_do) s.heap.objs.size T.a_Desk_do cdv)).units + 1 < cLine := by omega
  have hu67 : (A.deeper (PyProof.Rows.envOfC "Desk.do" (defScope s_Desk_do) s.heap.objs.size T.a_Desk_do cdv)).units + 67 < cLine := by omega
  replace hu66 : (A.deeper (PyProof.Rows.envOfC "Desk.do" (defScope s_Desk_do) s.heap.objs.size T.a_Desk_do cdv)).units + 66 < cLine := by omega
  exact (sb_cons (ss_if (st_not (st_val (se_call (O.o_is_row) hk (pas_of (takes_of rfl rfl rfl rfl)) rfl T.m_is_row T.F_is_row.kp T.b_is_row (sa_cons (se_var 1) sa_nil)))) (sb_one (ss_raise (xk_NoRow T) (hr.mono (by omega)) rfl (takes_of rfl rfl rfl rfl) rfl (sa_cons (se_var 2) sa_nil))) sb_nil)
    (sb_one (ss_if (st_cmp (os_eq hu64) noX_eq (se_ix hu1 (se_var 1) se_int) se_str (nomark _)) (sb_one (ss_expr (se_meth (O.o_Desk_put) hk (pas_of (takes_of rfl rfl rfl rfl)) T.mc_Desk T.cl_Desk T.me_Desk_put T.b_Desk_put (se_var 0) (sa_cons (se_ix hu1 (se_var 1) se_int) (sa_cons (se_ix hu1 (se_var 1) se_int) (sa_cons (se_ix hu1 (se_var 1) se_int) sa_nil)))))) (sb_one (ss_if (st_cmp (os_eq hu64) noX_eq (se_ix hu1 (se_var 1) se_int) se_str (nomark _)) (sb_one (ss_expr (se_meth (O.o_Desk_drop) hk (pas_of (takes_of rfl rfl rfl rfl)) T.mc_Desk T.cl_Desk T.me_Desk_drop T.b_Desk_drop (se_var 0) (sa_cons (se_ix hu1 (se_var 1) se_int) sa_nil)))) (sb_one (ss_expr (se_meth (O.o_Desk_move) hk (pas_of (takes_of rfl rfl rfl rfl)) T.mc_Desk T.cl_Desk T.me_Desk_move T.b_Desk_move (se_var 0) (sa_cons (se_ix hu1 (se_var 1) se_int) sa_nil)))))))))
set_option maxHeartbeats 4000000 in
theorem sim_Desk_several {k : Nat} (T : Txt w K mg) (O : Oks P base T k) (cdv : Value) (A : Around) (outer : List Env) (s : Shared) (H : Hp) (E : XK) (hr : Room (2 * k + 3) (A.deeper (PyProof.Rows.envOfC "Desk.several" (defScope s_Desk_several) s.heap.objs.size T.a_Desk_several cdv))) :
    SimB (cxOf (L2.CX P w) P w K mg base n_Desk_several "Desk.several" (defScope s_Desk_several) T.a_Desk_several cdv A outer s H E) (fun cls d _ H2 => E cls d H2) (defBody s_Desk_several) (b_Desk_several (call k)) := by
  have nd := sc_Desk_several.nd
  have hk : Room (2 * k + 2) (A.deeper (PyProof.Rows.envOfC "Desk.several" (defScope s_Desk_several) s.heap.objs.size T.a_Desk_several cdv)) := hr.mono (by omega)
  have hu66 := hr.un
  have hu64 : (A.deeper (PyProof.Rows.envOfC "Desk.several" (defScope s_Desk_several) s.heap.objs.size T.a_Desk_several cdv)).units + 64 < cLine := by omega
  have hu1 : (A.deeper (PyProof.Rows.envOfC "Desk.several" (defScope s_Desk_several) s.heap.objs.size T.a_Desk_several cdv)).units + 1 < cLine := by omega
  have hu67 : (A.deeper (PyProof.Rows.envOfC "Desk.several" (defScope s_Desk_several) s.heap.objs.size T.a_Desk_several cdv)).units + 67 < cLine := by omega
  replace hu66 : (A.deeper (PyProof.Rows.envOfC "Desk.several" (defScope s_Desk_several) s.heap.objs.size T.a_Desk_several cdv)).units + 66 < cLine := by omega
  exact (sb_cons (ss_par3 2 3 4 rfl nd rfl rfl rfl (by decide) (by decide) (by decide) rfl rfl rfl (sa_cons (se_get T.mc_Desk T.cl_Desk T.na_Desk_there (se_var 0)) (sa_cons (se_get T.mc_Desk T.cl_Desk T.na_Desk_many (se_var 0)) (sa_cons (SimL.loc (sl_callTy cl_list rfl T.z_list (by decide +kernel) (sa_cons (se_get T.mc_Desk T.cl_Desk T.na_Desk_ahead (se_var 0)) sa_nil))) sa_nil))) (by rfl))
    (sb_cons (ss_set 5 nd rfl (by first | exact Or.inl rfl | exact Or.inr rfl) se_non)
    (sb_one (ss_fin rfl rfl rfl (takes_of rfl rfl rfl rfl) (fun W pn xe tk po => (sb_cons (ss_for po rfl (si_enumA rfl T.z_enumerate (sa_cons (se_var 1) sa_nil)) (sg_tup rfl (sg_cons (sg_name 6 nd rfl (by first | exact Or.inl rfl | exact Or.inr rfl)) (sg_cons (sg_name 7 nd rfl (by first | exact Or.inl rfl | exact Or.inr rfl)) sg_nil))) (sb_one (ss_expr (se_meth (O.o_Desk_do) hk (pas_of tk) T.mc_Desk T.cl_Desk T.me_Desk_do T.b_Desk_do (se_var 0) (sa_cons (se_var 7) (sa_cons (se_var 6) sa_nil))))))
    (sb_one (ss_set 5 nd rfl (by first | exact Or.inl rfl | exact Or.inr rfl) se_bl)))) (sb_one (ss_if (st_cmp os_is noX_is (se_var 5) se_non (nomark _)) (sb_cons (ss_putF T.mc_Desk T.cl_Desk T.na_Desk_there (se_var 0) (se_var 2))
    (sb_cons (ss_putF T.mc_Desk T.cl_Desk T.na_Desk_many (se_var 0) (se_var 3))
    (sb_cons (ss_putF T.mc_Desk T.cl_Desk T.na_Desk_ahead (se_var 0) (se_var 4))
    (sb_one (ss_expr (se_bm0 PySem.F.plainAttrs_dict PySem.F.slot_dict_clear PySem.F.type_dict_clear ms_dclr (se_get T.mc_Desk T.cl_Desk T.na_Desk_known (se_var 0)))))))) sb_nil)) (fun a pn => (sb_one (ss_if (st_cmp os_is noX_is (se_var 5) se_non (nomark _)) (sb_cons (ss_putF T.mc_Desk T.cl_Desk T.na_Desk_there (se_var 0) (se_var 2))
    (sb_cons (ss_putF T.mc_Desk T.cl_Desk T.na_Desk_many (se_var 0) (se_var 3))
    (sb_cons (ss_putF T.mc_Desk T.cl_Desk T.na_Desk_ahead (se_var 0) (se_var 4))
    (sb_one (ss_expr (se_bm0 PySem.F.plainAttrs_dict PySem.F.slot_dict_clear PySem.F.type_dict_clear ms_dclr (se_get T.mc_Desk T.cl_Desk T.na_Desk_known (se_var 0)))))))) sb_nil)))))))
set_option maxHeartbeats 4000000 in
theorem sim_Desk_labels {k : Nat} (T : Txt w K mg) (O : Oks P base T k) (cdv : Value) (A : Around) (outer : List Env) (s : Shared) (H : Hp) (E : XK) (hr : Room (2 * k + 3) (A.deeper (PyProof.Rows.envOfC "Desk.labels" (defScope s_Desk_labels) s.heap.objs.size T.a_Desk_labels cdv))) :
    SimB (cxOf (L2.CX P w) P w K mg base n_Desk_labels "Desk.labels" (defScope s_Desk_labels) T.a_Desk_labels cdv A outer s H E) (fun cls d _ H2 => E cls d H2) (defBody s_Desk_labels) (b_Desk_labels (call k)) := by
  have nd := sc_Desk_labels.nd
  have hk : Room (2 * k + 2) (A.deeper (PyProof.Rows.envOfC "Desk.labels" (defScope s_Desk_labels) s.heap.objs.size T.a_Desk_labels cdv)) := hr.mono (by omega)
  have hu66 := hr.un
  have hu64 : (A.deeper (PyProof.Rows.envOfC "Desk.labels" (defScope s_Desk_labels) s.heap.objs.size T.a_Desk_labels cdv)).units + 64 < cLine := by omega
  have hu1 : (A.deeper (PyProof.Rows.envOfC "Desk.labels" (defScope s_Desk_labels) s.heap.objs.size T.a_Desk_labels cdv)).units + 1 < cLine := by omega
  have hu67 : (A.deeper (PyProof.Rows.envOfC "Desk.labels" (defScope s_Desk_labels) s.heap.objs.size T.a_Desk_labels cdv)).units + 67 < cLine := by omega
  replace hu66 : (A.deeper (PyProof.Rows.envOfC "Desk.labels" (defScope s_Desk_labels) s.heap.objs.size T.a_Desk_labels cdv)).units + 66 < cLine := by omega
  exact (sb_one (ss_ret (SimL.val (sl_comp rfl nd (si_list (SimL.val (sl_callB (cl_sortedA rfl hu64) rfl T.z_sorted (by decide +kernel) (sa_cons (se_get T.mc_Desk T.cl_Desk T.na_Desk_there (se_var 0)) sa_nil)))) (blkOk_by (own := [("label", 1)]) (N := n_Desk_labels) (sc := defScope s_Desk_labels) (by decide +kernel)) (fun _ _ _ _ _ => (sg_name 1 nd rfl (by first | exact Or.inl rfl | exact Or.inr rfl))) (fun _ _ _ _ _ => ts_nil) (fun _ _ _ _ _ => (se_tup (sa_cons (se_var 1) (sa_cons (se_ix hu1 (se_ix hu1 (se_get T.mc_Desk T.cl_Desk T.na_Desk_there (se_var 0)) (se_var 1)) se_int) sa_nil))))))))
set_option maxHeartbeats 0 in
theorem oks (T : Txt w K mg) : ∀ k, Oks P base T k
  | 0 => ⟨fn_bad (fun _ _ => rfl) _ _, fn_bad (fun _ _ => rfl) _ _, fn_bad (fun _ _ => rfl) _ _, fn_bad (fun _ _ => rfl) _ _, fn_bad (fun _ _ => rfl) _ _, fn_bad (fun _ _ => rfl) _ _, fn_bad (fun _ _ => rfl) _ _, fn_bad (fun _ _ => rfl) _ _, fn_bad (fun _ _ => rfl) _ _, fn_bad (fun _ _ => rfl) _ _, fn_bad (fun _ _ => rfl) _ _, fn_bad (fun _ _ => rfl) _ _, fn_bad (fun _ _ => rfl) _ _, fn_bad (fun _ _ => rfl) _ _, fn_bad (fun _ _ => rfl) _ _, fn_bad (fun _ _ => rfl) _ _, fn_bad (fun _ _ => rfl) _ _, fn_bad (fun _ _ => rfl) _ _, fn_bad (fun _ _ => rfl) _ _, fn_bad (fun _ _ => rfl) _ _, fn_bad (fun _ _ => rfl) _ _, fn_bad (fun _ _ => rfl) _ _, fn_bad (fun _ _ => rfl) _ _, fn_bad (fun _ _ => rfl) _ _, fn_bad (fun _ _ => rfl) _ _, fn_bad (fun _ _ => rfl) _ _, fn_bad (fun _ _ => rfl) _ _⟩
  | k + 1 => by
    have O := oks T k
    exact ⟨fn_sim T.F_is_word sc_is_word (fun _ _ _ => rfl) (sim_is_word T O),
      fn_sim T.F_parts_in sc_parts_in (fun _ _ _ => rfl) (sim_parts_in T O),
      fn_sim T.F_is_saying sc_is_saying (fun _ _ _ => rfl) (sim_is_saying T O),
      fn_sim T.F_is_row sc_is_row (fun _ _ _ => rfl) (sim_is_row T O),
      fn_sim T.F__law_tape sc_law_tape (fun _ _ _ => rfl) (sim_law_tape T O),
      fn_sim T.F__law_draw sc_law_draw (fun _ _ _ => rfl) (sim_law_draw T O),
      fn_sim T.F__law_words sc_law_words (fun _ _ _ => rfl) (sim_law_words T O),
      fn_sim T.F__law_saying sc_law_saying (fun _ _ _ => rfl) (sim_law_saying T O),
      fn_sim T.F__law_desk_row sc_law_desk_row (fun _ _ _ => rfl) (sim_law_desk_row T O),
      fn_sim T.F__law_after sc_law_after (fun _ _ _ => rfl) (sim_law_after T O),
      fn_sim T.F__law_bad sc_law_bad (fun _ _ _ => rfl) (sim_law_bad T O),
      fn_sim T.F__law_told sc_law_told (fun _ _ _ => rfl) (sim_law_told T O),
      fn_sim T.F__law_right sc_law_right (fun _ _ _ => rfl) (sim_law_right T O),
      fn_sim T.F__law_several sc_law_several (fun _ _ _ => rfl) (sim_law_several T O),
      fn_sim T.F__law_many sc_law_many (fun _ _ _ => rfl) (sim_law_many T O),
      fn_sim T.F_law sc_law (fun _ _ _ => rfl) (sim_law T O),
      fn_sim T.F_Desk___init__ sc_Desk___init__ (fun _ _ _ => rfl) (sim_Desk___init__ T O),
      fn_sim T.F_Desk_note sc_Desk_note (fun _ _ _ => rfl) (sim_Desk_note T O),
      fn_sim T.F_Desk_put sc_Desk_put (fun _ _ _ => rfl) (sim_Desk_put T O),
      fn_sim T.F_Desk_need sc_Desk_need (fun _ _ _ => rfl) (sim_Desk_need T O),
      fn_sim T.F_Desk_drop sc_Desk_drop (fun _ _ _ => rfl) (sim_Desk_drop T O),
      fn_sim T.F_Desk_move sc_Desk_move (fun _ _ _ => rfl) (sim_Desk_move T O),
      fn_sim T.F_Desk_undo sc_Desk_undo (fun _ _ _ => rfl) (sim_Desk_undo T O),
      fn_sim T.F_Desk_deeds sc_Desk_deeds (fun _ _ _ => rfl) (sim_Desk_deeds T O),
      fn_sim T.F_Desk_do sc_Desk_do (fun _ _ _ => rfl) (sim_Desk_do T O),
      fn_sim T.F_Desk_several sc_Desk_several (fun _ _ _ => rfl) (sim_Desk_several T O),
      fn_sim T.F_Desk_labels sc_Desk_labels (fun _ _ _ => rfl) (sim_Desk_labels T O)⟩
end
end Law
namespace DL
open PySem PySem.Spec L2
structure Y {α : Type} (r : R α) (Q : α → Sto → Prop) : Prop where
  out : Pst r Q (fun _ _ => False)
theorem Y.ok {α : Type} {r : R α} {Q : α → Sto → Prop} (h : Y r Q) : ∃ a S, r = .ok a S ∧ Q a S := by
  cases r with
  | ok a S => exact ⟨a, S, rfl, h.out⟩
  | exc x S => exact h.out.elim
  | bad => exact h.out.elim
theorem Y.of {α : Type} {r : R α} {Q : α → Sto → Prop} {a : α} {S : Sto} (e : r = .ok a S) (h : Q a S) : Y r Q := by rw [e]; exact ⟨h⟩
theorem Y.mono {α : Type} {r : R α} {P Q : α → Sto → Prop} (h : Y r P) (q : ∀ a S, P a S → Q a S) : Y r Q := ⟨Pst.mono h.out q fun _ _ z => z⟩
theorem y_ok {α : Type} {a : α} {S : Sto} {Q : α → Sto → Prop} (h : Q a S) : Y (.ok a S) Q := ⟨h⟩
theorem Y.bad {α : Type} {Q : α → Sto → Prop} (h : Y (.bad : R α) Q) : False := h.out
theorem y_bind {α β : Type} {r : R α} {k : α → Sto → R β} {Q : β → Sto → Prop} (h : Y r fun a S => Y (k a S) Q) : Y (r.bind k) Q := by
  obtain ⟨a, S, rfl, h1⟩ := h.ok
  exact h1
theorem y_guard {α : Type} {c : Bool} {r : R α} {Q : α → Sto → Prop} (hc : c = true) (h : Y r Q) : Y (guard c r) Q := by rw [hc]; exact h
section
variable {d : En} {S : Sto} {Q : U → Sto → Prop} {QB : Bool → Sto → Prop} {QA : List U → Sto → Prop} {fa fb fc f : FE} {ta tb : FT} {u : U} {i : Nat}
theorem y_C (h : Q u S) : Y (fC u d S) Q := ⟨h⟩
theorem y_var (e : d[i]? = some (some u)) (h : Q u S) : Y (fVar i d S) Q := by unfold fVar; rw [e]; exact ⟨h⟩
theorem y_f2 {g : U → U → Sto → R U} (h : Y (fa d S) fun x S1 => Y (fb d S1) fun y S2 => Y (g x y S2) Q) : Y (f2 g fa fb d S) Q := y_bind (h.mono fun x S1 h1 => y_bind h1)
theorem y_f1 {g : U → Sto → R U} (h : Y (fa d S) fun x S1 => Y (g x S1) Q) : Y (f1 g fa d S) Q := y_bind h
def unB (u : U) (S : Sto) : R Bool := match u with
  | .bl b => .ok b S
  | _ => .bad
theorem y_asB {r : R U} (h : Y r fun u S1 => Y (unB u S1) QB) : Y (asB r) QB := y_bind h
theorem y_unB {b : Bool} (h : QB b S) : Y (unB (.bl b) S) QB := ⟨h⟩
theorem y_B (h : Y (f d S) fun u S1 => Y (unB u S1) QB) : Y (fB f d S) QB := y_asB h
theorem y_ch {g g' : U → U → Sto → R U} (h : Y (fa d S) fun x S1 => Y (fb d S1) fun y S2 => Y (g x y S2) fun z S3 => Y (unB z S3) fun b S4 => if b = true then Y (fc d S4) fun t S5 => Y (g' y t S5) Q else Q (.bl false) S4) : Y (fCh g g' fa fb fc d S) Q := by
  refine y_bind (h.mono fun x S1 h1 => y_bind (h1.mono fun y S2 h2 => y_bind (h2.mono fun z S3 h3 => ?_)))
  cases z with
  | bl b =>
    cases b with
    | true => exact y_bind (show Y (fc d S3) _ from h3.out)
    | false => exact ⟨h3.out⟩
  | _ => exact h3.out.elim
theorem y_tru (h : Y (f d S) fun u S1 => Y (oB (truU u S1) S1) QB) : Y (fTru f d S) QB := y_bind h
theorem y_tbl {b : Bool} (h : QB b S) : Y (oB (truU (.bl b) S) S) QB := ⟨h⟩
theorem y_and (h : Y (ta d S) fun b S1 => if b = true then Y (tb d S1) QB else QB false S1) : Y (fAnd ta tb d S) QB := y_bind (h.mono fun b S1 h1 => by cases b <;> first | exact h1 | exact ⟨h1⟩)
theorem y_or (h : Y (ta d S) fun b S1 => if b = true then QB true S1 else Y (tb d S1) QB) : Y (fOr ta tb d S) QB := y_bind (h.mono fun b S1 h1 => by cases b <;> first | exact h1 | exact ⟨h1⟩)
theorem y_not (h : Y (ta d S) fun b S1 => QB (!b) S1) : Y (fNot ta d S) QB := y_bind (h.mono fun b S1 h1 => ⟨h1⟩)
theorem y_andV (h : Y (fa d S) fun u S1 => Y (oB (truU u S1) S1) fun b S2 => if b = true then Y (fb d S2) Q else Q u S2) : Y (fAndV fa fb d S) Q := y_bind (h.mono fun u S1 h1 => by
  cases e : truU u S1 with
  | none => rw [e] at h1; exact h1.out.elim
  | some b => rw [e] at h1; cases b <;> first | exact h1.out | exact ⟨h1.out⟩)
theorem y_orV (h : Y (fa d S) fun u S1 => Y (oB (truU u S1) S1) fun b S2 => if b = true then Q u S2 else Y (fb d S2) Q) : Y (fOrV fa fb d S) Q := y_bind (h.mono fun u S1 h1 => by
  cases e : truU u S1 with
  | none => rw [e] at h1; exact h1.out.elim
  | some b => rw [e] at h1; cases b <;> first | exact h1.out | exact ⟨h1.out⟩)
theorem y_notV (h : Y (fa d S) fun u S1 => Y (oB (truU u S1) S1) fun b S2 => Q (.bl (!b)) S2) : Y (fNotV fa d S) Q := y_bind (h.mono fun u S1 h1 => by
  cases e : truU u S1 with
  | none => rw [e] at h1; exact h1.out.elim
  | some b => rw [e] at h1; exact ⟨h1.out⟩)
theorem y_if {α : Type} {Q : α → Sto → Prop} {x y : En → Sto → R α} (h : Y (ta d S) fun b S1 => if b = true then Y (x d S1) Q else Y (y d S1) Q) : Y (fIf ta x y d S) Q := y_bind (h.mono fun b S1 h1 => by cases b <;> exact h1)
theorem y_nil (h : QA [] S) : Y (aNil d S) QA := ⟨h⟩
theorem y_cons {g : FA} (h : Y (f d S) fun u S1 => Y (g d S1) fun us S2 => QA (u :: us) S2) : Y (aCons f g d S) QA := y_bind (h.mono fun u S1 h1 => y_bind (h1.mono fun us S2 h2 => ⟨h2⟩))
theorem y_tup {g : FA} (h : Y (g d S) fun us S1 => us.length ≤ sizeLine ∧ Q (.tup us) S1) : Y (fTup g d S) Q := y_bind (h.mono fun us S1 h1 => by rw [if_pos h1.1]; exact ⟨h1.2⟩)
theorem y_lst {g : FA} (h : Y (g d S) fun us S1 => us.length ≤ sizeLine ∧ QA us S1) : Y (aLst g d S) QA := y_bind (h.mono fun us S1 h1 => by rw [if_pos h1.1]; exact ⟨h1.2⟩)
theorem y_val {g : FA} (h : Y (g d S) fun us S1 => Q (.lst us) S1) : Y (fVal g d S) Q := y_bind (h.mono fun _ _ h1 => ⟨h1⟩)
theorem y_loc {g : FA} (h : Y (g d S) fun us S1 => Q (.loc S1.length) (S1 ++ [.lst us])) : Y (fLoc g d S) Q := y_bind (h.mono fun _ _ h1 => ⟨h1⟩)
theorem y_dval {g : FD} (h : Y (g d S) fun p S1 => Q (.dic p.1 p.2) S1) : Y (fDval g d S) Q := y_bind (h.mono fun _ _ h1 => ⟨h1⟩)
theorem y_dloc {g : FD} (h : Y (g d S) fun p S1 => Q (.loc S1.length) (S1 ++ [.dic p.1 p.2])) : Y (fDloc g d S) Q := y_bind (h.mono fun _ _ h1 => ⟨h1⟩)
theorem y_ice (h : Y (f d S) fun u S1 => ∃ n us, u = .loc n ∧ S1[n]? = some (.lst us) ∧ Q (.lst us) (S1.set n .dead)) : Y (fIce f d S) Q := y_bind (h.mono fun u S1 ⟨n, us, e, e2, h1⟩ => by
  subst e
  show Y (match S1[n]? with
    | some (.lst us) => .ok (.lst us) (S1.set n .dead)
    | some (.dic ks us) => .ok (.dic ks us) (S1.set n .dead)
    | _ => .bad) Q
  rw [e2]
  exact ⟨h1⟩)
theorem y_oNone {QO : Option Int → Sto → Prop} (h : QO none S) : Y (oNone d S) QO := ⟨h⟩
theorem y_oSome {QO : Option Int → Sto → Prop} (h : Y (f d S) fun u S1 => ∃ i, u = .int i ∧ QO (some i) S1) : Y (oSome f d S) QO := y_bind (h.mono fun u S1 ⟨i, e, h1⟩ => by subst e; exact ⟨h1⟩)
theorem y_sl {l h' : FO} (h : Y (f d S) fun u S1 => Y (l d S1) fun lo S2 => Y (h' d S2) fun hi S3 => Y (oU (slB u lo hi S3) S3) Q) : Y (fSl f l h' d S) Q := y_bind (h.mono fun u S1 h1 => y_bind (h1.mono fun lo S2 h2 => y_bind h2))
theorem y_oU {o : Option U} (e : o = some u) (h : Q u S) : Y (oU o S) Q := by rw [e]; exact ⟨h⟩
theorem y_A {α : Type} {g : List U → Sto → R α} {fa : FA} {Q : α → Sto → Prop} (h : Y (fa d S) fun us S1 => Y (g us S1) Q) : Y (fA g fa d S) Q := y_bind h
theorem y_call {n : Nat} {g : List U → Sto → R U} {fa : FA} (h : Y (fa d S) fun us S1 => (us.length == n) = true ∧ Y (g us S1) Q) : Y (fCall n g fa d S) Q := y_bind (h.mono fun us S1 h1 => y_guard h1.1 h1.2)
theorem y_M {T : String} {g : U → List U → Sto → R U} {fo : FE} {fa : FA} (h : Y (fo d S) fun u S1 => tyU T u S1 = true ∧ Y (fa d S1) fun us S2 => Y (g u us S2) Q) : Y (fM T g fo fa d S) Q := y_bind (h.mono fun u S1 h1 => y_guard h1.1 (y_bind h1.2))
theorem y_wget {tab : List (Str × U)} (h : Y (f d S) fun u S1 => ∃ z, u = .str z ∧ Q ((lookT tab z).getD .non) S1) : Y (fWget tab f d S) Q := y_bind (h.mono fun u S1 ⟨z, e, h1⟩ => by subst e; exact ⟨h1⟩)
theorem y_over {p : U → Option (List U)} (h : Y (f d S) fun u S1 => ∃ us, p u = some us ∧ QA us S1) : Y (aOver p f d S) QA := y_bind (h.mono fun u S1 ⟨us, e, h1⟩ => by
  show Y (match p u with
    | some us => .ok us S1
    | none => .bad) QA
  rw [e]
  exact ⟨h1⟩)
theorem y_rng1 {g : FA} (h : Y (g d S) fun us S1 => ∃ j, us = [.int j] ∧ -(2 ^ 62) ≤ j ∧ j < 2 ^ 62 ∧ QA (rngU 0 1 j.toNat) S1) : Y (aRng1 g d S) QA := y_bind (h.mono fun us S1 ⟨j, e, h1, h2, h3⟩ => by
  subst e
  exact y_guard (by rw [decide_eq_true h1, decide_eq_true h2]; rfl) ⟨h3⟩)
theorem y_addI {i j : Int} (h : Q (.int (i + j)) S) : Y (addU (.int i) (.int j) S) Q := ⟨h⟩
theorem y_addS {x y : Str} (hl : x.length + y.length ≤ sizeLine) (h : Q (.str (x ++ y)) S) : Y (addU (.str x) (.str y) S) Q := y_guard (decide_eq_true hl) ⟨h⟩
theorem y_subI {i j : Int} (h : Q (.int (i - j)) S) : Y (subU (.int i) (.int j) S) Q := ⟨h⟩
theorem y_mulI {i j : Int} (hm : mulOk i j = true) (h : Q (.int (i * j)) S) : Y (mulU (.int i) (.int j) S) Q := y_guard hm ⟨h⟩
theorem y_fdivI {i j : Int} (h1 : 0 < j) (h2 : j.natAbs.log2 < 9000) (h : Q (.int (i / j)) S) : Y (fdivU (.int i) (.int j) S) Q := y_guard (by simp [h1, h2]) ⟨h⟩
theorem y_modI {i j : Int} (h1 : 0 < j) (h : Q (.int (i % j)) S) : Y (modU (.int i) (.int j) S) Q := y_guard (decide_eq_true h1) ⟨h⟩
theorem y_powI {i j : Int} (h1 : 0 ≤ j) (h2 : j ≤ 1000000) (h3 : i.natAbs < 2 ^ 64) (h : Q (.int (i ^ j.toNat)) S) : Y (powU (.int i) (.int j) S) Q := y_guard (by simp [h1, h2, h3]) ⟨h⟩
theorem y_ltI {i j : Int} (h : Q (.bl (decide (i < j))) S) : Y (ltU (.int i) (.int j) S) Q := ⟨h⟩
theorem y_leI {i j : Int} (h : Q (.bl (decide (i ≤ j))) S) : Y (leU (.int i) (.int j) S) Q := ⟨h⟩
theorem y_gtI {i j : Int} (h : Q (.bl (decide (j < i))) S) : Y (gtU (.int i) (.int j) S) Q := ⟨h⟩
theorem y_geI {i j : Int} (h : Q (.bl (decide (j ≤ i))) S) : Y (geU (.int i) (.int j) S) Q := ⟨h⟩
theorem y_isN {x : U} (h : Q (.bl (isNon x)) S) : Y (isU x .non S) Q := ⟨h⟩
theorem y_isnN {x : U} (h : Q (.bl (!isNon x)) S) : Y (isnU x .non S) Q := ⟨h⟩
theorem y_eqF {x y : U} (hs : scalU x y = true) (h : Q (.bl (eqF x y)) S) : Y (eqU x y S) Q := by
  unfold eqU eqOk; rw [hs]; exact ⟨h⟩
theorem y_neF {x y : U} (hs : scalU x y = true) (h : Q (.bl (!eqF x y)) S) : Y (neU x y S) Q := by
  unfold neU eqOk; rw [hs]; exact ⟨h⟩
theorem y_eqI {i j : Int} (h : Q (.bl (decide (i = j))) S) : Y (eqU (.int i) (.int j) S) Q := y_eqF rfl h
theorem y_neI {i j : Int} (h : Q (.bl (!decide (i = j))) S) : Y (neU (.int i) (.int j) S) Q := y_neF rfl h
theorem y_eqB {i j : Bool} (h : Q (.bl (i == j)) S) : Y (eqU (.bl i) (.bl j) S) Q := y_eqF rfl h
theorem y_neB {i j : Bool} (h : Q (.bl (!(i == j))) S) : Y (neU (.bl i) (.bl j) S) Q := y_neF rfl h
theorem str_beq (x y : Str) : (x == y) = decide (x = y) := by
  by_cases q : x = y
  · subst q; simp
  · rw [decide_eq_false q]; simp [q]
theorem y_eqS {x y : Str} (h : Q (.bl (decide (x = y))) S) : Y (eqU (.str x) (.str y) S) Q := y_eqF rfl (show Q (.bl (x == y)) S by rw [str_beq]; exact h)
theorem y_neS {x y : Str} (h : Q (.bl (!decide (x = y))) S) : Y (neU (.str x) (.str y) S) Q := y_neF rfl (show Q (.bl (!(x == y))) S by rw [str_beq]; exact h)
theorem atI_mem {α : Type} {xs : List α} {i : Int} (h0 : 0 ≤ i) (h1 : i < xs.length) : ∃ x, x ∈ xs ∧ xs[i.toNat]? = some x ∧ atI xs i = some x := by
  obtain ⟨n, rfl⟩ := Int.eq_ofNat_of_zero_le h0
  have hn : n < xs.length := by omega
  refine ⟨xs[n], List.getElem_mem hn, ?_, atI_nat (List.getElem?_eq_getElem hn)⟩
  show xs[n]? = _
  exact List.getElem?_eq_getElem hn
theorem y_ixL {us : List U} {i : Int} (h0 : 0 ≤ i) (h1 : i < us.length) (h : ∀ u, u ∈ us → us[i.toNat]? = some u → Q u S) : Y (ixU (.lst us) (.int i) S) Q := by
  obtain ⟨x, hx, e1, e2⟩ := atI_mem h0 h1
  exact y_oU (show ixB (.lst us) (.int i) S = some x from e2) (h x hx e1)
theorem y_ixS {z : Str} {i : Int} (hz : z.length ≤ sizeLine) (h0 : 0 ≤ i) (h1 : i < z.cps.toList.length) (h : ∀ c, c ∈ z.cps.toList → z.cps.toList[i.toNat]? = some c → Q (.str ⟨#[c]⟩) S) : Y (ixU (.str z) (.int i) S) Q := by
  obtain ⟨x, hx, e1, e2⟩ := atI_mem h0 h1
  refine y_oU (u := .str ⟨#[x]⟩) ?_ (h x hx e1)
  show (if z.length ≤ sizeLine then (atI z.cps.toList i).map fun c => U.str ⟨#[c]⟩ else none) = _
  rw [if_pos hz, e2]
  rfl
end
structure EU where
  nx : En → Sto → Prop
  rt : U → Sto → Prop
  bk : En → Sto → Prop := fun _ _ => False
  ct : En → Sto → Prop := fun _ _ => False
  ex : Exc → En → Sto → Prop := fun _ _ _ => False
def wS (r : R Fl) (D : EU) : Prop := match r with
  | .ok (.nx d) S => D.nx d S
  | .ok (.rt u) S => D.rt u S
  | .ok (.bk d) S => D.bk d S
  | .ok (.ct d) S => D.ct d S
  | .ok (.ex x d) S => D.ex x d S
  | _ => False
structure WS (r : R Fl) (D : EU) : Prop where
  out : wS r D
section
variable {d : En} {S : Sto} {D : EU} {f : FE} {g h : FS} {t : FT} {i : Nat}
theorem ws_toS {α : Type} {r : R α} {k : α → Sto → R Fl} (h : Y r fun a S1 => WS (k a S1) D) : WS (toS d r k) D := by
  obtain ⟨a, S, rfl, h1⟩ := h.ok
  exact h1
theorem w_nop (h : D.nx d S) : WS (fNop d S) D := ⟨h⟩
theorem w_expr (h : Y (f d S) fun _ S1 => D.nx d S1) : WS (fExpr f d S) D := ws_toS (h.mono fun _ _ h1 => ⟨h1⟩)
theorem w_ret (h : Y (f d S) fun u S1 => D.rt u S1) : WS (fRet f d S) D := ws_toS (h.mono fun _ _ h1 => ⟨h1⟩)
theorem w_retN (h : D.rt .non S) : WS (fRetN d S) D := ⟨h⟩
theorem w_brk (h : D.bk d S) : WS (fBrk d S) D := ⟨h⟩
theorem w_ct (h : D.ct d S) : WS (fCt d S) D := ⟨h⟩
theorem w_set (h : Y (f d S) fun u S1 => D.nx (d.set i (some u)) S1) : WS (fSet i f d S) D := ws_toS (h.mono fun _ _ h1 => ⟨h1⟩)
theorem w_asg {gt : U → En → Option En} (h : Y (f d S) fun u S1 => ∃ d', gt u d = some d' ∧ D.nx d' S1) : WS (fAsg gt f d S) D := ws_toS (h.mono fun u S1 ⟨d', e, h1⟩ => by
  show WS (match gt u d with
    | some d' => .ok (.nx d') S1
    | none => .bad) D
  rw [e]
  exact ⟨h1⟩)
theorem w_seq (h1 : WS (g d S) { D with nx := fun d1 S1 => WS (h d1 S1) D }) : WS (fSeq g h d S) D := by
  unfold fSeq
  cases e : g d S with
  | ok fl S1 =>
    rw [e] at h1
    cases fl <;> first | exact h1.out | exact ⟨h1.out⟩
  | exc x S => rw [e] at h1; exact h1.out.elim
  | bad => rw [e] at h1; exact h1.out.elim
theorem w_if (h1 : Y (t d S) fun b S1 => if b = true then WS (g d S1) D else WS (h d S1) D) : WS (fIfS t g h d S) D := ws_toS (h1.mono fun b S1 h2 => by cases b <;> exact h2)
theorem w_store {fe fo fi : FE} (h : Y (fe d S) fun v S1 => Y (fo d S1) fun o S2 => Y (fi d S2) fun i S3 => ∃ S4, stU o i v S3 = some S4 ∧ D.nx d S4) : WS (fStore fe fo fi d S) D :=
  ws_toS (h.mono fun v S1 h1 => ws_toS (h1.mono fun o S2 h2 => ws_toS (h2.mono fun i S3 ⟨S4, e, h3⟩ => by
    show WS (match stU o i v S3 with
      | some S4 => .ok (.nx d) S4
      | none => .bad) D
    rw [e]
    exact ⟨h3⟩)))
theorem WS.mono {r : R Fl} {D D' : EU} (h : WS r D) (h1 : ∀ d S, D.nx d S → D'.nx d S) (h2 : ∀ u S, D.rt u S → D'.rt u S) (h3 : ∀ d S, D.bk d S → D'.bk d S) (h4 : ∀ d S, D.ct d S → D'.ct d S) (h5 : ∀ x d S, D.ex x d S → D'.ex x d S) : WS r D' := by
  cases r with
  | ok fl S => cases fl with
    | nx d => exact ⟨h1 d S h.out⟩
    | rt u => exact ⟨h2 u S h.out⟩
    | bk d => exact ⟨h3 d S h.out⟩
    | ct d => exact ⟨h4 d S h.out⟩
    | ex x d => exact ⟨h5 x d S h.out⟩
  | exc x S => exact h.out.elim
  | bad => exact h.out.elim
theorem w_loop {gt : U → En → Option En} {g : FS} {D : EU} (I : List U → En → Sto → Prop)
    (h : ∀ u us d S, I (u :: us) d S → ∃ d1, gt u d = some d1 ∧ WS (g d1 S) { D with nx := I us, ct := I us, bk := D.nx }) (h0 : ∀ d S, I [] d S → D.nx d S) : ∀ (us : List U) (d : En) (S : Sto), I us d S → WS (loopF gt g us d S) D
  | [], d, S, hi => ⟨h0 d S hi⟩
  | u :: us, d, S, hi => by
    obtain ⟨d1, e, hw⟩ := h u us d S hi
    unfold loopF
    rw [e]
    show WS (match g d1 S with
      | .ok (.nx d2) S1 => loopF gt g us d2 S1
      | .ok (.ct d2) S1 => loopF gt g us d2 S1
      | .ok (.bk d2) S1 => .ok (.nx d2) S1
      | r => r) D
    cases hg : g d1 S with
    | ok fl S1 =>
      rw [hg] at hw
      cases fl with
      | nx d2 => exact w_loop I h h0 us d2 S1 hw.out
      | ct d2 => exact w_loop I h h0 us d2 S1 hw.out
      | bk d2 => exact ⟨hw.out⟩
      | rt u => exact ⟨hw.out⟩
      | ex x d2 => exact ⟨hw.out⟩
    | exc x S => rw [hg] at hw; exact hw.out.elim
    | bad => rw [hg] at hw; exact hw.out.elim
theorem w_for {fi : FA} {gt : U → En → Option En} {g : FS} (h : Y (fi d S) fun us S1 => WS (loopF gt g us d S1) D) : WS (fFor fi gt g d S) D := ws_toS h
theorem w_while {t : FT} {g : FS} {D : EU} (I : Nat → En → Sto → Prop)
    (h : ∀ m d S, I m d S → Y (t d S) fun b S1 => if b = true then WS (g d S1) { D with nx := fun d2 S2 => ∃ m', m' < m ∧ I m' d2 S2, ct := fun d2 S2 => ∃ m', m' < m ∧ I m' d2 S2, bk := D.nx } else D.nx d S1) :
    ∀ (n m : Nat) (d : En) (S : Sto), m < n → I m d S → WS (whileF t g n d S) D
  | 0, m, d, S, hl, _ => absurd hl (Nat.not_lt_zero _)
  | n + 1, m, d, S, hl, hi => by
    unfold whileF
    refine ws_toS ((h m d S hi).mono fun b S1 h1 => ?_)
    cases b with
    | false => exact ⟨h1⟩
    | true =>
      show WS (match g d S1 with
        | .ok (.nx d2) S2 => whileF t g n d2 S2
        | .ok (.ct d2) S2 => whileF t g n d2 S2
        | .ok (.bk d2) S2 => .ok (.nx d2) S2
        | r => r) D
      have h1 : WS (g d S1) { D with nx := fun d2 S2 => ∃ m', m' < m ∧ I m' d2 S2, ct := fun d2 S2 => ∃ m', m' < m ∧ I m' d2 S2, bk := D.nx } := h1
      cases hg : g d S1 with
      | ok fl S2 =>
        rw [hg] at h1
        cases fl with
        | nx d2 => obtain ⟨m', hm, h2⟩ := h1.out; exact w_while I h n m' d2 S2 (by omega) h2
        | ct d2 => obtain ⟨m', hm, h2⟩ := h1.out; exact w_while I h n m' d2 S2 (by omega) h2
        | bk d2 => exact ⟨h1.out⟩
        | rt u => exact ⟨h1.out⟩
        | ex x d2 => exact ⟨h1.out⟩
      | exc x S => rw [hg] at h1; exact h1.out.elim
      | bad => rw [hg] at h1; exact h1.out.elim
theorem y_comp {gt : U → En → Option En} {t : FT} {f : FE} {d : En} {Q : List U → Sto → Prop} (I : List U → List U → Sto → Prop)
    (h : ∀ u us acc S, I (u :: us) acc S → acc.length < sizeLine ∧ ∃ d1, gt u d = some d1 ∧ Y (t d1 S) fun b S1 => if b = true then Y (f d1 S1) fun y S2 => I us (acc ++ [y]) S2 else I us acc S1) (h0 : ∀ acc S, I [] acc S → Q acc S) :
    ∀ (us acc : List U) (S : Sto), I us acc S → Y (compF gt t f d us acc S) Q
  | [], acc, S, hi => ⟨h0 acc S hi⟩
  | u :: us, acc, S, hi => by
    obtain ⟨hl, d1, e, hy⟩ := h u us acc S hi
    unfold compF
    rw [e]
    obtain ⟨b, S1, e1, hy⟩ := hy.ok
    dsimp only
    rw [e1]
    cases b with
    | true =>
      obtain ⟨y, S2, e2, hy⟩ := Y.ok hy
      dsimp only
      rw [e2]
      exact y_guard (decide_eq_true hl) (y_comp I h h0 us _ S2 hy)
    | false => exact y_comp I h h0 us acc S1 hy
theorem y_aComp {fi : FA} {gt : U → En → Option En} {t : FT} {f : FE} {vs : List Nat} {Q : List U → Sto → Prop} (h : Y (fi d S) fun us S1 => Y (compF gt t f (wipeE d vs) us [] S1) Q) : Y (aComp fi gt t f vs d S) Q := y_bind h
theorem y_run {body : FS} {d : En} {S : Sto} {Q : U → Sto → Prop} (h : WS (body d S) { nx := fun _ S1 => Q .non S1, rt := Q }) : Y (runB body d S) Q := by
  unfold runB
  cases e : body d S with
  | ok fl S1 =>
    rw [e] at h
    cases fl with
    | nx d => exact ⟨h.out⟩
    | rt u => exact ⟨h.out⟩
    | bk d => exact h.out.elim
    | ct d => exact h.out.elim
    | ex x d => exact h.out.elim
  | exc x S => rw [e] at h; exact h.out.elim
  | bad => rw [e] at h; exact h.out.elim
theorem ite_b {b : Bool} {A B : Prop} (h1 : b = true → A) (h2 : b = false → B) : if b = true then A else B := by
  cases b with
  | true => exact h1 rfl
  | false => exact h2 rfl
end
theorem yY {α : Type} {r : R α} {Q : α → Sto → Prop} (h : Y r Q) : Y r Q := h
theorem wW {r : R Fl} {D : EU} (h : WS r D) : WS r D := h
end DL
namespace DL
open PySem PySem.Spec L2
def tapeO (cs : List Int) (sp lf : Int) : Ob := .dic [.inr "cells", .inr "spot", .inr "left"] [.lst (cs.map .int), .int sp, .int lf]
theorem ix_of {n : Nat} {S : Sto} {ks : List Key} {us : List U} {k : Str} {u : U} (h : S[n]? = some (.dic ks us)) (e : valU ks us (.inr k) = some u) : ixB (.loc n) (.str k) S = some u := by
  unfold ixB DL.listOf listM dictOf keyU
  simp only [h]
  exact e
theorem ix_left {n : Nat} {S : Sto} {cs : List Int} {sp lf : Int} (h : S[n]? = some (tapeO cs sp lf)) : ixB (.loc n) (.str "left") S = some (.int lf) := ix_of h rfl
theorem ix_spot {n : Nat} {S : Sto} {cs : List Int} {sp lf : Int} (h : S[n]? = some (tapeO cs sp lf)) : ixB (.loc n) (.str "spot") S = some (.int sp) := ix_of h rfl
theorem ix_cells {n : Nat} {S : Sto} {cs : List Int} {sp lf : Int} (h : S[n]? = some (tapeO cs sp lf)) : ixB (.loc n) (.str "cells") S = some (.lst (cs.map .int)) := ix_of h rfl
theorem st_of {n : Nat} {S : Sto} {ks : List Key} {us : List U} {k : Str} {v : U} {p : List Key × List U} (h : S[n]? = some (.dic ks us)) (hl : ks.length < sizeLine) (e : putU ks us (.inr k) v = p) : stU (.loc n) (.str k) v S = some (S.set n (.dic p.1 p.2)) := by
  unfold stU keyU
  simp only [h, e, if_pos hl]
theorem st_left {n : Nat} {S : Sto} {cs : List Int} {sp lf lf' : Int} (h : S[n]? = some (tapeO cs sp lf)) : stU (.loc n) (.str "left") (.int lf') S = some (S.set n (tapeO cs sp lf')) := st_of h (by decide) rfl
theorem st_spot {n : Nat} {S : Sto} {cs : List Int} {sp lf sp' : Int} (h : S[n]? = some (tapeO cs sp lf)) : stU (.loc n) (.str "spot") (.int sp') S = some (S.set n (tapeO cs sp' lf)) := st_of h (by decide) rfl
theorem y_ix {x y u : U} {S : Sto} {Q : U → Sto → Prop} (e : ixB x y S = some u) (h : Q u S) : Y (ixU x y S) Q := y_oU e h
def Tape (n : Nat) (b : Int) (S : Sto) : Prop := ∃ cs sp lf, S[n]? = some (tapeO cs sp lf) ∧ cs.length ≤ 63 ∧ 0 ≤ sp ∧ sp ≤ b ∧ 0 ≤ lf
def Fr (ms : List Nat) (S S' : Sto) : Prop := S.length ≤ S'.length ∧ ∀ m, m < S.length → m ∉ ms → S'[m]? = S[m]?
theorem Fr.refl (ms : List Nat) (S : Sto) : Fr ms S S := ⟨Nat.le_refl _, fun _ _ _ => rfl⟩
theorem Fr.trans {ms : List Nat} {S S1 S2 : Sto} (a : Fr ms S S1) (b : Fr ms S1 S2) : Fr ms S S2 := ⟨Nat.le_trans a.1 b.1, fun m h n => (b.2 m (Nat.lt_of_lt_of_le h a.1) n).trans (a.2 m h n)⟩
theorem Fr.more {ms ns : List Nat} {S S' : Sto} (a : Fr ms S S') (h : ∀ m ∈ ms, m ∈ ns) : Fr ns S S' := ⟨a.1, fun m hm hn => a.2 m hm fun q => hn (h m q)⟩
theorem Fr.set {n : Nat} {S : Sto} {o : Ob} {ms : List Nat} (h : n ∈ ms) : Fr ms S (S.set n o) := ⟨by simp, fun m _ hm => List.getElem?_set_ne fun e => hm (by rw [← e]; exact h)⟩
theorem Fr.push {S : Sto} {o : Ob} {ms : List Nat} : Fr ms S (S ++ [o]) := ⟨by simp, fun m hm _ => List.getElem?_append_left hm⟩
theorem Fr.get {ms : List Nat} {S S' : Sto} {m : Nat} {o : Ob} (a : Fr ms S S') (h : S[m]? = some o) (hm : m ∉ ms) : S'[m]? = some o := (a.2 m (List.getElem?_eq_some_iff.mp h).1 hm).trans h
theorem Tape.lt {n : Nat} {b : Int} {S : Sto} (t : Tape n b S) : n < S.length := by
  obtain ⟨_, _, _, h, _⟩ := t
  exact (List.getElem?_eq_some_iff.mp h).1
theorem Tape.mono {n : Nat} {b b' : Int} {S : Sto} (t : Tape n b S) (h : b ≤ b') : Tape n b' S := by
  obtain ⟨cs, sp, lf, h1, h2, h3, h4, h5⟩ := t
  exact ⟨cs, sp, lf, h1, h2, h3, by omega, h5⟩
theorem Tape.fr {n : Nat} {b : Int} {S S' : Sto} {ms : List Nat} (t : Tape n b S) (f : Fr ms S S') (h : n ∉ ms) : Tape n b S' := by
  obtain ⟨cs, sp, lf, h1, h2⟩ := t
  exact ⟨cs, sp, lf, f.get h1 h, h2⟩
def Drawn1 (n : Nat) (b many : Int) (S : Sto) (u : U) (S' : Sto) : Prop := ∃ r, u = .int r ∧ 0 ≤ r ∧ r < many ∧ Tape n b S' ∧ S'.length = S.length ∧ Fr [n] S S'
theorem mul_ok {i j : Int} {a b : Nat} (ha : i.natAbs < 2 ^ a) (hb : j.natAbs < 2 ^ b) (h : a + b ≤ 134217728) : mulOk i j = true := decide_eq_true (mulx_ok ha hb h)
theorem natAbs_lt {i : Int} {a : Nat} (h0 : 0 ≤ i) (h : i < 2 ^ a) : i.natAbs < 2 ^ a := by
  have : (i.natAbs : Int) < ((2 ^ a : Nat) : Int) := by
    rw [Int.natAbs_of_nonneg h0]
    have e : ((2 ^ a : Nat) : Int) = 2 ^ a := by simp
    rw [e]; exact h
  exact Int.ofNat_lt.mp this
end DL
namespace DL
theorem log_lt {m : Int} (h0 : 0 < m) (h1 : m < 2 ^ 200) : m.natAbs.log2 < 9000 := by
  have : m.natAbs < 2 ^ 200 := natAbs_lt (by omega) h1
  have := (Nat.log2_lt (by omega : m.natAbs ≠ 0)).mpr this
  omega
end DL
namespace DL
theorem y_orC {fa fb : FE} {d : En} {S : Sto} {Q : U → Sto → Prop} {cs : List Int} (hl : cs.length ≤ 63) (e : fa d S = .ok (.lst (cs.map .int)) S) (e2 : fb d S = .ok (.lst [.int 0]) S) (h : ∀ ds : List Int, 0 < ds.length → ds.length ≤ 63 → Q (.lst (ds.map .int)) S) : Y (fOrV fa fb d S) Q := by
  refine y_orV ?_
  rw [e]
  refine y_ok ?_
  cases cs with
  | nil => exact ⟨(show Y (fb d S) Q by rw [e2]; exact ⟨h [0] (by decide) (by decide)⟩)⟩
  | cons c cs => exact ⟨h (c :: cs) (by simp) hl⟩
theorem y_lenL {us : List U} {S : Sto} {Q : U → Sto → Prop} (h : Q (.int us.length) S) : Y (lenC [.lst us] S) Q := ⟨h⟩
theorem y_ixI {ds : List Int} {i : Int} {S : Sto} {Q : U → Sto → Prop} (h0 : 0 ≤ i) (h1 : i < ds.length) (h : ∀ c, Q (.int c) S) : Y (ixU (.lst (ds.map .int)) (.int i) S) Q := by
  refine y_ixL h0 (by rw [List.length_map]; exact h1) fun u hu _ => ?_
  obtain ⟨c, _, rfl⟩ := List.mem_map.mp hu
  exact h c
end DL
namespace DL
theorem w_ifP {t : FT} {g h : FS} {d : En} {S : Sto} {D : EU} (P : Bool → Prop) (h0 : Y (t d S) fun b S1 => S1 = S ∧ P b) (h1 : P true → WS (g d S) D) (h2 : P false → WS (h d S) D) : WS (fIfS t g h d S) D :=
  w_if (h0.mono fun b S1 ⟨e, p⟩ => by
    subst e
    cases b with
    | true => exact h1 p
    | false => exact h2 p)
end DL
namespace DL
open PySem PySem.Spec L2 TL
theorem len_cs (z : Str) : z.length = (tl z).length := by show z.cps.size = _; simp
theorem cs_take (z : Str) (k : Nat) : tl (cutS z none (some (k : Int))) = (tl z).take k := by
  show ((z.cps.toList.drop (HT.sIx z.length 0 none)).take (HT.sIx z.length z.length (some (k : Int)) - HT.sIx z.length 0 none)) = _
  rw [HT.sIx_none, HT.sIx_nat, List.drop_zero, Nat.sub_zero, len_cs]
  show List.take (min k (tl z).length) (tl z) = _
  rw [List.take_eq_take_iff]
  omega
theorem cs_join (ys : List Str) : tl (Txt.join "" ys) = (ys.map tl).flatten := by
  rw [join_eq, tl_join]
  show joinL [] _ = _
  generalize ys.map tl = zs
  induction zs with
  | nil => rfl
  | cons p r ih =>
    cases r with
    | nil => simp [joinL]
    | cons q r => show p ++ ([] ++ joinL [] (q :: r)) = _; rw [ih]; simp
def Low (z : Str) : Prop := ∀ c ∈ tl z, 97 ≤ c ∧ c ≤ 122
theorem Low.app {x y : Str} (a : Low x) (b : Low y) : Low (x ++ y) := fun c h => by
  rw [tl_append] at h
  exact (List.mem_append.mp h).elim (a c) (b c)
theorem Low.take {x : Str} (a : Low x) (k : Nat) : Low (cutS x none (some (k : Int))) := fun c h => by
  rw [cs_take] at h
  exact a c (List.mem_of_mem_take h)
theorem Low.one {x : Str} {c : Nat} (a : Low x) (h : c ∈ x.cps.toList) : Low ⟨#[c]⟩ := fun c' h' => by
  have : c' = c := by simpa using h'
  subst this
  exact a _ h
theorem Low.join {ys : List Str} (h : ∀ y ∈ ys, Low y) : Low (Txt.join "" ys) := fun c hc => by
  rw [cs_join] at hc
  obtain ⟨l, hl, hc⟩ := List.mem_flatten.mp hc
  obtain ⟨y, hy, rfl⟩ := List.mem_map.mp hl
  exact h y hy c hc
theorem Low.ok {x : Str} (a : Low x) : PyData.strOk x = true := by
  unfold PyData.strOk
  rw [Array.all_eq_true']
  intro c hc
  have := a c (by simpa using hc)
  exact decide_eq_true (by omega)
theorem len_app (x y : Str) : (x ++ y).length = x.length + y.length := by rw [len_cs, len_cs, len_cs, tl_append, List.length_append]
theorem len_take (x : Str) (k : Nat) : (cutS x none (some (k : Int))).length = min k x.length := by rw [len_cs, len_cs, cs_take, List.length_take]
theorem len_join {ys : List Str} (h : ∀ y ∈ ys, y.length = 1) : (Txt.join "" ys).length = ys.length := by
  rw [len_cs, cs_join, List.length_flatten, List.map_map]
  induction ys with
  | nil => rfl
  | cons y r ih =>
    rw [List.map_cons, List.sum_cons, ih fun z hz => h z (List.mem_cons_of_mem _ hz)]
    show (tl y).length + _ = _
    rw [← len_cs, h y List.mem_cons_self, List.length_cons]
    omega
def Pl (c : Nat) : Nat → U → Prop
  | _, .non => True
  | _, .bl _ => True
  | _, .int _ => True
  | _, .str z => PyData.strOk z = true ∧ z.length ≤ sizeLine
  | n + 1, .tup us => us.length ≤ c ∧ ∀ u ∈ us, Pl c n u
  | n + 1, .lst us => us.length ≤ c ∧ ∀ u ∈ us, Pl c n u
  | _, _ => False
theorem Pl.ups {c c' n m : Nat} (hc : c ≤ c') (h : n ≤ m) : ∀ {u : U}, Pl c n u → Pl c' m u := by
  induction n generalizing m with
  | zero =>
    intro u p
    cases u <;> first | trivial | exact p | exact p.elim | skip
    all_goals (unfold Pl at p ⊢; first | exact p | exact p.elim)
  | succ n ih =>
    intro u p
    obtain ⟨m, rfl⟩ : ∃ k, m = k + 1 := ⟨m - 1, by omega⟩
    cases u with
    | tup us => exact ⟨Nat.le_trans p.1 hc, fun u hu => ih (by omega) (p.2 u hu)⟩
    | lst us => exact ⟨Nat.le_trans p.1 hc, fun u hu => ih (by omega) (p.2 u hu)⟩
    | non => trivial
    | bl b => trivial
    | int i => trivial
    | str z => exact p
    | frz us => exact p.elim
    | dic a b => exact p.elim
    | loc n => exact p.elim
    | ty n => exact p.elim
    | exc a b c => exact p.elim
    | cl c => exact p.elim
theorem Pl.up {c n m : Nat} (h : n ≤ m) {u : U} (p : Pl c n u) : Pl c m u := Pl.ups (Nat.le_refl _) h p
def plB (c : Nat) : Nat → U → Bool
  | _, .non => true
  | _, .bl _ => true
  | _, .int _ => true
  | _, .str z => PyData.strOk z && decide (z.length ≤ sizeLine)
  | n + 1, .tup us => decide (us.length ≤ c) && us.all (plB c n)
  | n + 1, .lst us => decide (us.length ≤ c) && us.all (plB c n)
  | _, _ => false
theorem plB_ok {c : Nat} : ∀ {n : Nat} {u : U}, plB c n u = true → Pl c n u := by
  intro n
  induction n with
  | zero =>
    intro u h
    cases u with
    | str z => unfold plB at h; unfold Pl; rw [Bool.and_eq_true] at h; exact ⟨h.1, of_decide_eq_true h.2⟩
    | non => trivial
    | bl b => trivial
    | int i => trivial
    | _ => unfold plB at h; cases h
  | succ n ih =>
    intro u h
    cases u with
    | str z => unfold plB at h; unfold Pl; rw [Bool.and_eq_true] at h; exact ⟨h.1, of_decide_eq_true h.2⟩
    | tup us => unfold plB at h; rw [Bool.and_eq_true] at h; exact ⟨of_decide_eq_true h.1, fun u hu => ih (List.all_eq_true.mp h.2 u hu)⟩
    | lst us => unfold plB at h; rw [Bool.and_eq_true] at h; exact ⟨of_decide_eq_true h.1, fun u hu => ih (List.all_eq_true.mp h.2 u hu)⟩
    | non => trivial
    | bl b => trivial
    | int i => trivial
    | _ => unfold plB at h; cases h
theorem Pl.strs {c n : Nat} {z : Str} (h : PyData.strOk z = true ∧ z.length ≤ sizeLine) : Pl c n (.str z) := by cases n <;> (unfold Pl; exact h)
theorem Pl.dat : ∀ {c n : Nat} {u : U}, Pl c n u → ∃ d, toD u = some d ∧ d.canLay0 = true ∧ d.depth ≤ n := by
  intro c n
  induction n with
  | zero =>
    intro u p
    cases u with
    | non => exact ⟨_, rfl, rfl, Nat.le_refl _⟩
    | bl b => exact ⟨_, rfl, rfl, Nat.le_refl _⟩
    | int i => exact ⟨_, rfl, rfl, Nat.le_refl _⟩
    | str z => exact ⟨.str z, rfl, by unfold Pl at p; exact p.1, Nat.le_refl _⟩
    | _ => unfold Pl at p; exact p.elim
  | succ n ih =>
    have all : ∀ {us : List U}, (∀ u ∈ us, Pl c n u) → ∃ ds, toDs us = some ds ∧ PyData.canLayAll0 ds = true ∧ PyData.depthAll ds ≤ n := by
      intro us h
      induction us with
      | nil => exact ⟨[], rfl, rfl, Nat.zero_le _⟩
      | cons u r ih2 =>
        obtain ⟨d, e, a, b⟩ := ih (h u List.mem_cons_self)
        obtain ⟨ds, es, as, bs⟩ := ih2 fun v hv => h v (List.mem_cons_of_mem _ hv)
        refine ⟨d :: ds, by unfold toDs; rw [e, es], ?_, ?_⟩
        · unfold PyData.canLayAll0; rw [a, as]; rfl
        · unfold PyData.depthAll; omega
    intro u p
    cases u with
    | non => exact ⟨_, rfl, rfl, Nat.zero_le _⟩
    | bl b => exact ⟨_, rfl, rfl, Nat.zero_le _⟩
    | int i => exact ⟨_, rfl, rfl, Nat.zero_le _⟩
    | str z => exact ⟨.str z, rfl, p.1, Nat.zero_le _⟩
    | tup us =>
      obtain ⟨ds, e, a, b⟩ := all p.2
      exact ⟨.tuple ds, by unfold toD; rw [e]; rfl, by unfold PyData.canLay0; exact a, by unfold PyData.depth; omega⟩
    | lst us =>
      obtain ⟨ds, e, a, b⟩ := all p.2
      exact ⟨.list ds, by unfold toD; rw [e]; rfl, by unfold PyData.canLay0; exact a, by unfold PyData.depth; omega⟩
    | _ => unfold Pl at p; exact p.elim
theorem toDS_toD {u : U} {S : Sto} {d : PyData} (h : toD u = some d) : toDS u S = some d := by
  cases u <;> first | exact h | (unfold toD at h; cases h)
theorem Pl.shaped {c n : Nat} {u : U} (p : Pl c n u) (hn : n ≤ 64) (S : Sto) : ∃ d, toDS u S = some d ∧ SeqAt.shaped d = true := by
  obtain ⟨d, e, a, b⟩ := p.dat
  refine ⟨d, toDS_toD e, ?_⟩
  unfold SeqAt.shaped
  rw [a, decide_eq_true (by omega : d.depth ≤ 64)]
  rfl
end DL
namespace DL
open PySem PySem.Spec L2 TL
theorem sizeL : sizeLine = 16777216 := rfl
theorem rng_len (lo c : Int) (n : Nat) : (rngU lo c n).length = n := by unfold rngU; simp
theorem strsOf_map : ∀ ys : List Str, strsOf (ys.map .str) = some ys
  | [] => rfl
  | y :: ys => by
    show (strsOf (ys.map .str)).map (y :: ·) = _
    rw [strsOf_map ys]; rfl
theorem y_join1 {ys : List Str} {S : Sto} {Q : U → Sto → Prop} (h1 : ∀ y ∈ ys, y.length = 1) (h2 : ys.length ≤ 10000) (h : Q (.str (Txt.join "" ys)) S) : Y (joinM (.str "") [.lst (ys.map .str)] S) Q := by
  show Y (match strsOf (ys.map .str) with
      | some ys => guard (decide ((ys.map (·.length)).sum + ys.length * Str.length "" ≤ 16777216)) (.ok (.str (Txt.join "" ys)) S)
      | none => .bad) Q
  rw [strsOf_map]
  refine y_guard (decide_eq_true ?_) ⟨h⟩
  have e : (ys.map (·.length)).sum = ys.length := by
    clear h2 h
    induction ys with
    | nil => rfl
    | cons y r ih => rw [List.map_cons, List.sum_cons, ih fun z hz => h1 z (List.mem_cons_of_mem _ hz), h1 y List.mem_cons_self, List.length_cons]; omega
  rw [e, show Str.length "" = 0 from rfl]
  omega
theorem any_str (ws : List Str) (w : Str) : ((ws.map U.str).any fun z => eqF z (.str w)) = decide (w ∈ ws) := by
  induction ws with
  | nil => rfl
  | cons y r ih =>
    rw [List.map_cons, List.any_cons, ih]
    show ((y == w) || _) = _
    rw [str_beq, ← Bool.decide_or]
    by_cases q : y = w
    · subst q; simp
    · have q' : ¬ w = y := fun e => q e.symm
      simp [q, q']
theorem all_flat (ws : List Str) : (ws.map U.str).all flatU = true := by
  induction ws with
  | nil => rfl
  | cons y r ih => rw [List.map_cons, List.all_cons, ih]; rfl
theorem y_inL {f : Nat} {ws : List Str} {w : Str} {S : Sto} {Q : U → Sto → Prop} (hf : S[f]? = some (.lst (ws.map .str))) (h : Q (.bl (decide (w ∈ ws))) S) : Y (inU (.str w) (.loc f) S) Q := by
  have e : inB (.str w) (.loc f) S = some (decide (w ∈ ws)) := by
    unfold inB dictOf flatL DL.listOf listM
    simp only [hf]
    rw [all_flat, any_str]
    rfl
  unfold inU
  rw [e]
  exact ⟨h⟩
theorem y_inV {ws : List Str} {w : Str} {S : Sto} {Q : U → Sto → Prop} (h : Q (.bl (decide (w ∈ ws))) S) : Y (inU (.str w) (.lst (ws.map .str)) S) Q := by
  have e : inB (.str w) (.lst (ws.map .str)) S = some (decide (w ∈ ws)) := by
    unfold inB dictOf flatL DL.listOf listM
    dsimp only
    rw [all_flat, any_str]
    rfl
  unfold inU
  rw [e]
  exact ⟨h⟩
theorem y_inT {us : List U} (ws : List Str) {w : Str} {S : Sto} {Q : U → Sto → Prop} (e : us = ws.map .str) (h : Q (.bl (decide (w ∈ ws))) S) : Y (inU (.str w) (.tup us) S) Q := by
  subst e
  have e : inB (.str w) (.tup (ws.map .str)) S = some (decide (w ∈ ws)) := by
    unfold inB
    dsimp only
    rw [all_flat, any_str]
    rfl
  unfold inU
  rw [e]
  exact ⟨h⟩
theorem Fr.setNew {ms : List Nat} {S S1 : Sto} {f : Nat} {o : Ob} (a : Fr ms S S1) (h : S.length ≤ f) : Fr ms S (S1.set f o) :=
  ⟨by rw [List.length_set]; exact a.1, fun m hm hn => by rw [List.getElem?_set_ne (by omega)]; exact a.2 m hm hn⟩
theorem y_app {f : Nat} {us : List U} {u : U} {S : Sto} {Q : U → Sto → Prop} (hf : S[f]? = some (.lst us)) (hl : us.length < sizeLine) (h : Q .non (S.set f (.lst (us ++ [u])))) : Y (appM (.loc f) [u] S) Q := by
  unfold appM
  simp only [hf]
  exact y_guard (decide_eq_true hl) ⟨h⟩
theorem ty_list {f : Nat} {us : List U} {S : Sto} (hf : S[f]? = some (.lst us)) : tyU "list" (.loc f) S = true := by
  unfold tyU
  simp only [hf]
  rfl
theorem y_slS {z : Str} {lo hi : Option Int} {S : Sto} {Q : U → Sto → Prop} (hz : z.length ≤ sizeLine) (h : Q (.str (cutS z lo hi)) S) : Y (oU (slB (.str z) lo hi S) S) Q := y_oU (show (if z.length ≤ sizeLine then some (U.str (cutS z lo hi)) else none) = _ by rw [if_pos hz]) h
theorem sto_snoc {S : Sto} {o : Ob} : (S ++ [o])[S.length]? = some o := by simp
theorem len_ok {a : Nat} (h : Nat.ble a sizeLine = true) : a ≤ sizeLine := Nat.le_of_ble_eq_true h
theorem cut_pre (us : List U) (j : Nat) : cutU us none (some (j : Int)) = us.take j := by
  unfold cutU
  rw [HT.sIx_none, HT.sIx_nat, List.drop_zero, Nat.sub_zero]
  rw [List.take_eq_take_iff]; omega
theorem cut_suf (us : List U) (j : Nat) : cutU us (some (j : Int)) none = us.drop j := by
  unfold cutU
  rw [HT.sIx_none, HT.sIx_nat]
  have : us.drop (min j us.length) = us.drop j := by
    by_cases h : j ≤ us.length
    · rw [Nat.min_eq_left h]
    · rw [Nat.min_eq_right (by omega), List.drop_length, List.drop_eq_nil_of_le (by omega)]
  rw [this, List.take_of_length_le (by rw [List.length_drop]; omega)]
theorem y_slT {us : List U} {lo hi : Option Int} {S : Sto} {Q : U → Sto → Prop} (h : Q (.tup (cutU us lo hi)) S) : Y (oU (slB (.tup us) lo hi S) S) Q := y_oU (o := slB (.tup us) lo hi S) rfl h
theorem y_slL {us : List U} {lo hi : Option Int} {S : Sto} {Q : U → Sto → Prop} (h : Q (.lst (cutU us lo hi)) S) : Y (oU (slB (.lst us) lo hi S) S) Q := y_oU (o := slB (.lst us) lo hi S) rfl h
theorem y_lenT {us : List U} {S : Sto} {Q : U → Sto → Prop} (h : Q (.int us.length) S) : Y (lenC [.tup us] S) Q := ⟨h⟩
theorem y_lenZ {z : Str} {S : Sto} {Q : U → Sto → Prop} (hz : z.length ≤ sizeLine) (h : Q (.int z.length) S) : Y (lenC [.str z] S) Q := by
  unfold lenC lenU
  dsimp only
  rw [if_pos hz]
  exact ⟨h⟩
def isTup : U → Bool
  | .tup _ => true
  | _ => false
def isStr : U → Bool
  | .str _ => true
  | _ => false
theorem y_isT {c n : Nat} {u : U} {S : Sto} {Q : U → Sto → Prop} (p : Pl c n u) (h : Q (.bl (isTup u)) S) : Y (isiC [u, .ty "tuple"] S) Q := by
  cases u with
  | non => exact ⟨h⟩
  | bl b => exact ⟨h⟩
  | int i => exact ⟨h⟩
  | str z => exact ⟨h⟩
  | tup us => exact ⟨h⟩
  | lst us => exact ⟨h⟩
  | _ => cases n <;> (unfold Pl at p; exact p.elim)
theorem y_isS {c n : Nat} {u : U} {S : Sto} {Q : U → Sto → Prop} (p : Pl c n u) (h : Q (.bl (isStr u)) S) : Y (isiC [u, .ty "str"] S) Q := by
  cases u with
  | non => exact ⟨h⟩
  | bl b => exact ⟨h⟩
  | int i => exact ⟨h⟩
  | str z => exact ⟨h⟩
  | tup us => exact ⟨h⟩
  | lst us => exact ⟨h⟩
  | _ => cases n <;> (unfold Pl at p; exact p.elim)
theorem Pl.tup {c n : Nat} {us : List U} (p : Pl c n (.tup us)) : us.length ≤ c ∧ ∃ m, n = m + 1 ∧ ∀ u ∈ us, Pl c m u := by
  cases n with
  | zero => unfold Pl at p; exact p.elim
  | succ n => exact ⟨p.1, n, rfl, p.2⟩
end DL
namespace DL
open PySem PySem.Spec L2 TL
inductive Op where
  | and | or | gives | same
def Op.s : Op → Str
  | .and => "and"
  | .or => "or"
  | .gives => "if"
  | .same => "same"
inductive Say where
  | yes | no
  | name (w : Str)
  | neg (a : Say)
  | bin (o : Op) (a b : Say)
namespace Say
def u : Say → U
  | yes => .tup [.str "yes"]
  | no => .tup [.str "no"]
  | name w => .tup [.str "name", .str w]
  | neg a => .tup [.str "not", a.u]
  | bin o a b => .tup [.str o.s, a.u, b.u]
def deep : Say → Nat
  | neg a => a.deep + 1
  | bin _ a b => max a.deep b.deep + 1
  | _ => 1
def parts : Say → Nat
  | neg a => a.parts + 1
  | bin _ a b => a.parts + b.parts + 1
  | _ => 1
def On (P : Str → Prop) : Say → Prop
  | name w => P w
  | neg a => a.On P
  | bin _ a b => a.On P ∧ b.On P
  | _ => True
theorem On.mono {P Q : Str → Prop} (h : ∀ w, P w → Q w) : ∀ {x : Say}, x.On P → x.On Q
  | yes, _ => trivial
  | no, _ => trivial
  | name w, p => h w p
  | neg a, p => On.mono (x := a) h p
  | bin _ a b, p => ⟨On.mono (x := a) h p.1, On.mono (x := b) h p.2⟩
theorem deep_pos (x : Say) : 1 ≤ x.deep := by cases x <;> simp [deep]
end Say
theorem op_ok (o : Op) : PyData.strOk o.s = true ∧ o.s.length ≤ sizeLine := by cases o <;> decide +kernel
theorem Say.pl {x : Say} (h : x.On fun w => PyData.strOk w = true ∧ w.length ≤ sizeLine) : Pl 3 x.deep x.u := by
  have s1 : PyData.strOk "yes" = true ∧ Str.length "yes" ≤ sizeLine := by decide +kernel
  have s2 : PyData.strOk "no" = true ∧ Str.length "no" ≤ sizeLine := by decide +kernel
  have s3 : PyData.strOk "name" = true ∧ Str.length "name" ≤ sizeLine := by decide +kernel
  have s4 : PyData.strOk "not" = true ∧ Str.length "not" ≤ sizeLine := by decide +kernel
  have str : ∀ {n : Nat} {z : Str}, (PyData.strOk z = true ∧ z.length ≤ sizeLine) → Pl 3 n (.str z) := fun {n z} h => Pl.strs h
  induction x with
  | yes => exact ⟨(by decide : 1 ≤ 3), fun u hu => by rw [List.mem_singleton.mp hu]; exact str s1⟩
  | no => exact ⟨(by decide : 1 ≤ 3), fun u hu => by rw [List.mem_singleton.mp hu]; exact str s2⟩
  | name w =>
    refine ⟨(by decide : 2 ≤ 3), fun u hu => ?_⟩
    simp only [List.mem_cons, List.mem_nil_iff, or_false] at hu
    rcases hu with rfl | rfl
    · exact str s3
    · exact str h
  | neg a ih =>
    refine ⟨(by decide : 2 ≤ 3), fun u hu => ?_⟩
    simp only [List.mem_cons, List.mem_nil_iff, or_false] at hu
    rcases hu with rfl | rfl
    · exact str s4
    · exact ih h
  | bin o a b iha ihb =>
    refine ⟨(by decide : 3 ≤ 3), fun u hu => ?_⟩
    simp only [List.mem_cons, List.mem_nil_iff, or_false] at hu
    rcases hu with rfl | rfl | rfl
    · exact str (op_ok o)
    · exact (iha h.1).up (Nat.le_max_left _ _)
    · exact (ihb h.2).up (Nat.le_max_right _ _)
def cst : Nat → Int
  | 0 => 90
  | d + 1 => 90 + 2 * cst d
theorem cst_pos : ∀ d, 90 ≤ cst d
  | 0 => Int.le_refl _
  | d + 1 => by have := cst_pos d; unfold cst; omega
theorem y_min {i j : Int} {S : Sto} {Q : U → Sto → Prop} (h : Q (.int (if j < i then j else i)) S) : Y (minC [.int i, .int j] S) Q := ⟨h⟩
theorem y_max {i j : Int} {S : Sto} {Q : U → Sto → Prop} (h : Q (.int (if j > i then j else i)) S) : Y (maxC [.int i, .int j] S) Q := ⟨h⟩
theorem y_intB {b : Bool} {S : Sto} {Q : U → Sto → Prop} (h : Q (.int (if b then 1 else 0)) S) : Y (intC [.bl b] S) Q := ⟨h⟩
theorem ix_first {f : Nat} {S : Sto} {u : U} {us : List U} (h : S[f]? = some (.lst (u :: us))) : ixB (.loc f) (.int 0) S = some u := by
  unfold ixB DL.listOf listM
  simp only [h]
  exact atI_nat (j := 0) rfl
theorem st_first {f : Nat} {S : Sto} {u v : U} {us : List U} (h : S[f]? = some (.lst (u :: us))) : stU (.loc f) (.int 0) v S = some (S.set f (.lst (v :: us))) := by
  unfold stU
  simp only [h]
  rw [show ixN (u :: us).length 0 = some 0 from by unfold ixN; rw [if_pos (by decide), if_pos (by rw [List.length_cons]; omega)]; rfl]
  rfl
theorem y_lenS {ws : List Str} {S : Sto} {Q : U → Sto → Prop} (h : Q (.int (ws.length : Nat)) S) : Y (lenC [.lst (ws.map .str)] S) Q := y_lenL (by rw [List.length_map]; exact h)
theorem y_ixW {ws : List Str} {i : Int} {S : Sto} {Q : U → Sto → Prop} (h0 : 0 ≤ i) (h1 : i < (ws.length : Nat)) (h : ∀ w, w ∈ ws → ws[i.toNat]? = some w → Q (.str w) S) : Y (ixU (.lst (ws.map .str)) (.int i) S) Q := by
  refine y_ixL h0 (by rw [List.length_map]; exact h1) fun u hu e => ?_
  rw [List.getElem?_map] at e
  obtain ⟨w, hw, rfl⟩ := Option.map_eq_some_iff.mp e
  exact h w (List.mem_of_getElem? hw) hw
end DL
namespace DL
open PySem PySem.Spec L2 TL
end DL
namespace DL
open PySem PySem.Spec L2 TL
theorem y_compM {gt : U → En → Option En} {f : FE} {d : En} {S : Sto} {Q : List U → Sto → Prop} (g : U → U) : ∀ (us acc : List U), (∀ u ∈ us, ∃ d1, gt u d = some d1 ∧ Y (f d1 S) fun y S2 => y = g u ∧ S2 = S) → acc.length + us.length ≤ sizeLine → Q (acc ++ us.map g) S → Y (compF gt fYes f d us acc S) Q
  | [], acc, _, _, hq => by
    rw [List.map_nil, List.append_nil] at hq
    exact ⟨hq⟩
  | u :: us, acc, h, hl, hq => by
    obtain ⟨d1, e, hy⟩ := h u List.mem_cons_self
    obtain ⟨y, S2, e2, rfl, rfl⟩ := hy.ok
    rw [List.length_cons] at hl
    unfold compF
    rw [e]
    dsimp only [fYes]
    rw [e2]
    refine y_guard (decide_eq_true (by omega)) (y_compM g us _ (fun v hv => h v (List.mem_cons_of_mem _ hv)) (by rw [List.length_append, List.length_singleton]; omega) ?_)
    rw [List.append_assoc]
    exact hq
theorem boolsOf_map {α : Type} (g : α → Bool) : ∀ us : List α, boolsOf (us.map fun u => U.bl (g u)) = some (us.map g)
  | [] => rfl
  | u :: us => by
    show (boolsOf (us.map fun u => U.bl (g u))).map (g u :: ·) = _
    rw [boolsOf_map g us]; rfl
end DL
namespace DL
open PySem PySem.Spec L2
section
variable {d : En} {S : Sto} {Q : U → Sto → Prop} {QA : List U → Sto → Prop} {fa fb fe : FE} {ga : FA} {D : EU}
theorem y_mkx {c f : Str} (h : Y (ga d S) fun us S1 => ∃ u, us = [u] ∧ Q (.exc c f u) S1) : Y (fMkx c f ga d S) Q := y_bind (h.mono fun us S1 ⟨u, e, h1⟩ => by subst e; exact ⟨h1⟩)
theorem y_mkx1 {c f : Str} (h : Y (fa d S) fun u S1 => Q (.exc c f u) S1) : Y (fMkx c f (aCons fa aNil) d S) Q := y_mkx (y_cons (h.mono fun u S1 h1 => y_nil ⟨u, rfl, h1⟩))
theorem y_aAdd (h : Y (fa d S) fun x S1 => Y (fb d S1) fun y S2 => ∃ a b, listM x S2 = some a ∧ listM y S2 = some b ∧ a.length + b.length ≤ sizeLine ∧ QA (a ++ b) S2) : Y (aAdd fa fb d S) QA := y_bind (h.mono fun x S1 h1 => y_bind (h1.mono fun y S2 ⟨a, b, e1, e2, hl, h2⟩ => by
  show Y (match listM x S2, listM y S2 with
    | some a, some b => guard (decide (a.length + b.length ≤ sizeLine)) (.ok (a ++ b) S2)
    | _, _ => .bad) QA
  rw [e1, e2]
  exact y_guard (decide_eq_true hl) ⟨h2⟩))
theorem y_fld {cs : List Str} {f : Str} (h : Y (fe d S) fun u S1 => ∃ c v, u = .exc c f v ∧ cs.contains c = true ∧ Q v S1) : Y (fFld cs f fe d S) Q := y_bind (h.mono fun u S1 ⟨c, v, e, hc, h1⟩ => by
  subst e
  show Y (if cs.contains c && decide (f = f) then .ok v S1 else .bad) Q
  rw [hc, decide_eq_true rfl]
  exact ⟨h1⟩)
theorem y_appG {f : Nat} {us : List U} {u : U} (hf : S[f]? = some (.lst us)) (hl : us.length < sizeLine) (h : ∀ S', S'[f]? = some (.lst (us ++ [u])) → S'.length = S.length → Fr [f] S S' → Q .non S') : Y (appM (.loc f) [u] S) Q :=
  y_app hf hl (h _ (List.getElem?_set_self (List.getElem?_eq_some_iff.mp hf).1) List.length_set (Fr.set (by simp)))
theorem y_locG {g : FA} (h : Y (g d S) fun us S1 => ∀ n S', n = S1.length → S'[n]? = some (.lst us) → S'.length = S1.length + 1 → Fr [] S1 S' → Q (.loc n) S') : Y (fLoc g d S) Q := y_loc (h.mono fun us S1 h1 => h1 _ _ rfl sto_snoc (by simp) Fr.push)
theorem y_dlocG {g : FD} (h : Y (g d S) fun p S1 => ∀ n S', n = S1.length → S'[n]? = some (.dic p.1 p.2) → S'.length = S1.length + 1 → Fr [] S1 S' → Q (.loc n) S') : Y (fDloc g d S) Q := y_dloc (h.mono fun us S1 h1 => h1 _ _ rfl sto_snoc (by simp) Fr.push)
theorem w_iceL {i n : Nat} {us : List U} (h1 : d[i]? = some (some (.loc n))) (h2 : S[n]? = some (.lst us)) (h : D.nx (d.set i (some (.lst us))) (S.set n .dead)) : WS (iceV i d S) D := by
  unfold iceV
  rw [h1]
  dsimp only
  rw [h2]
  exact ⟨h⟩
theorem w_iceG {i n : Nat} {us : List U} (h1 : d[i]? = some (some (.loc n))) (h2 : S[n]? = some (.lst us)) (h : ∀ S', S'.length = S.length → Fr [n] S S' → D.nx (d.set i (some (.lst us))) S') : WS (iceV i d S) D :=
  w_iceL h1 h2 (h _ List.length_set (Fr.set (by simp)))
theorem w_raise {c f : Str} (h : Y (ga d S) fun us S1 => ∃ u, us = [u] ∧ D.ex ⟨c, f, u⟩ d S1) : WS (fRaise c f ga d S) D := ws_toS (h.mono fun us S1 ⟨u, e, h1⟩ => by subst e; exact ⟨h1⟩)
theorem lm_loc {n : Nat} {us : List U} (h : S[n]? = some (.lst us)) : listM (.loc n) S = some us := by unfold listM; dsimp only; rw [h]
theorem WS.of {r : R Fl} {fl : Fl} (e : r = .ok fl S) (h : WS (.ok fl S) D) : WS r D := by rw [e]; exact h
end
mutual
theorem eqv_refl : ∀ d : PyData, d.canLay0 = true → PyData.eqv d d = true
  | .none, _ => by unfold PyData.eqv; rfl
  | .bool b, _ => by unfold PyData.eqv; simp
  | .int i, _ => by unfold PyData.eqv; simp
  | .str s, _ => by unfold PyData.eqv; simp
  | .list xs, h => by unfold PyData.eqv; exact eqvAll_refl xs (by unfold PyData.canLay0 at h; exact h)
  | .tuple xs, h => by unfold PyData.eqv; exact eqvAll_refl xs (by unfold PyData.canLay0 at h; exact h)
  | .dict kvs, h => by unfold PyData.canLay0 at h; cases h
theorem eqvAll_refl : ∀ ds : List PyData, PyData.canLayAll0 ds = true → PyData.eqvAll ds ds = true
  | [], _ => by unfold PyData.eqvAll; rfl
  | d :: ds, h => by
    unfold PyData.canLayAll0 at h
    rw [Bool.and_eq_true] at h
    unfold PyData.eqvAll
    rw [eqv_refl d h.1, eqvAll_refl ds h.2]
    rfl
end
end DL
namespace DL
open PySem PySem.Spec L2 TL
def addS (zs : List Str) (k : Str) : List Str := if k ∈ zs then zs else zs ++ [k]
def dz (zs : List Str) : List Key := zs.map Sum.inr
theorem addS_mem {zs : List Str} {k x : Str} : x ∈ addS zs k ↔ x ∈ zs ∨ x = k := by
  unfold addS
  by_cases h : k ∈ zs
  · rw [if_pos h]; exact ⟨.inl, fun q => q.elim id fun e => e ▸ h⟩
  · rw [if_neg h, List.mem_append, List.mem_singleton]
theorem keys_z : ∀ zs : List Str, keysS (dz zs) = some zs
  | [] => rfl
  | z :: zs => by
    show (keysS (dz zs)).map (z :: ·) = _
    rw [keys_z zs]
    rfl
theorem sort_len (l : List Str) : (sortT l).length = l.length := (sortT_perm l).length_eq
theorem sort_mem {l : List Str} {x : Str} : x ∈ sortT l ↔ x ∈ l := (sortT_perm l).mem_iff
theorem sort_one (w : Str) : sortT [w] = [w] := List.mergeSort_singleton w
theorem sort_nil : sortT [] = [] := List.mergeSort_nil
namespace Say
def names : Say → List Str
  | name w => [w]
  | neg a => a.names
  | bin _ a b => a.names ++ b.names
  | _ => []
end Say
def Op.ev : Op → Bool → Bool → Bool
  | .and, a, b => a && b
  | .or, a, b => a || b
  | .gives, a, b => !a || b
  | .same, a, b => a == b
def Say.ev (ρ : Str → Bool) : Say → Bool
  | .yes => true
  | .no => false
  | .name w => ρ w
  | .neg a => !a.ev ρ
  | .bin o a b => o.ev (a.ev ρ) (b.ev ρ)
section
variable {d : En} {S : Sto} {Q : U → Sto → Prop} {QA : List U → Sto → Prop} {fa fb fe : FE} {ga : FA} {D : EU}
end
section
variable {d : En} {S : Sto} {D : EU} {n i : Nat} {g : List U → Sto → R U} {fa : FA}
theorem ws_toSx {α : Type} {r : R α} {k : α → Sto → R Fl} (h : Pst r (fun a S1 => WS (k a S1) D) (fun x S1 => D.ex x d S1)) : WS (toS d r k) D := by
  cases r with
  | ok a S => exact h
  | exc x S => exact ⟨h⟩
  | bad => exact h.elim
theorem y_runX {body : FS} {Q : U → Sto → Prop} {E : Exc → Sto → Prop} (h : WS (body d S) { nx := fun _ S1 => Q .non S1, rt := Q, ex := fun x _ S1 => E x S1 }) : Pst (runB body d S) Q E := by
  unfold runB
  cases e : body d S with
  | ok fl S1 =>
    rw [e] at h
    cases fl with
    | nx d => exact h.out
    | rt u => exact h.out
    | bk d => exact h.out.elim
    | ct d => exact h.out.elim
    | ex x d => exact h.out
  | exc x S => rw [e] at h; exact h.out.elim
  | bad => rw [e] at h; exact h.out.elim
end
theorem w_try {m : Str → Option Bool} {i : Nat} {fb fs : FS} {d : En} {S : Sto} {D : EU}
    (h : WS (fb d S) { D with ex := fun x d1 S1 => m x.cls = some true ∧ WS (fs (d1.set i (some (.exc x.cls x.fld x.arg))) S1) { nx := fun d2 S2 => D.nx (d2.set i none) S2, rt := D.rt, bk := fun d2 S2 => D.bk (d2.set i none) S2, ct := fun d2 S2 => D.ct (d2.set i none) S2 } }) : WS (fTry m i fb fs d S) D := by
  unfold fTry
  cases e : fb d S with
  | bad => rw [e] at h; exact h.out.elim
  | exc x S1 => rw [e] at h; exact h.out.elim
  | ok fl S1 =>
    rw [e] at h
    cases fl with
    | nx d1 => exact ⟨h.out⟩
    | rt u => exact ⟨h.out⟩
    | bk d1 => exact ⟨h.out⟩
    | ct d1 => exact ⟨h.out⟩
    | ex x d1 =>
      obtain ⟨hm, h⟩ := h.out
      show WS (match m x.cls with
        | some true => match fs (d1.set i (some (.exc x.cls x.fld x.arg))) S1 with
          | .ok (.nx d2) S2 => .ok (.nx (d2.set i none)) S2
          | .ok (.rt u) S2 => .ok (.rt u) S2
          | .ok (.bk d2) S2 => .ok (.bk (d2.set i none)) S2
          | .ok (.ct d2) S2 => .ok (.ct (d2.set i none)) S2
          | _ => .bad
        | some false => .ok (.ex x d1) S1
        | none => .bad) D
      rw [hm]
      dsimp only
      cases e2 : fs (d1.set i (some (.exc x.cls x.fld x.arg))) S1 with
      | bad => rw [e2] at h; exact h.out.elim
      | exc y S2 => rw [e2] at h; exact h.out.elim
      | ok fl S2 =>
        rw [e2] at h
        cases fl with
        | nx d2 => exact ⟨h.out⟩
        | rt u => exact ⟨h.out⟩
        | bk d2 => exact ⟨h.out⟩
        | ct d2 => exact ⟨h.out⟩
        | ex y d2 => exact h.out.elim
section
variable {d d1 : En} {S : Sto} {D : EU} {gt : U → En → Option En} {g : FS} {u : U} {us : List U} {f : FE} {t : FT}
theorem w_lc (e : gt u d = some d1) (h : WS (g d1 S) { D with nx := fun d2 S2 => WS (loopF gt g us d2 S2) D, ct := fun d2 S2 => WS (loopF gt g us d2 S2) D, bk := D.nx }) : WS (loopF gt g (u :: us) d S) D := by
  unfold loopF
  rw [e]
  show WS (match g d1 S with
      | .ok (.nx d2) S1 => loopF gt g us d2 S1
      | .ok (.ct d2) S1 => loopF gt g us d2 S1
      | .ok (.bk d2) S1 => .ok (.nx d2) S1
      | r => r) D
  cases hg : g d1 S with
  | ok fl S1 =>
    rw [hg] at h
    cases fl <;> first | exact h.out | exact ⟨h.out⟩
  | exc x S => rw [hg] at h; exact h.out.elim
  | bad => rw [hg] at h; exact h.out.elim
theorem w_ln (h : D.nx d S) : WS (loopF gt g [] d S) D := ⟨h⟩
theorem y_cn {acc : List U} {Q : List U → Sto → Prop} (h : Q acc S) : Y (compF gt t f d [] acc S) Q := ⟨h⟩
end
theorem y_compFM {gt : U → En → Option En} {t : FT} {f : FE} {d : En} {S : Sto} {Q : List U → Sto → Prop} (p : U → Bool) (h : U → U) : ∀ (us acc : List U), (∀ u ∈ us, ∃ d1, gt u d = some d1 ∧ Y (t d1 S) (fun b S2 => b = p u ∧ S2 = S) ∧ (p u = true → Y (f d1 S) fun y S2 => y = h u ∧ S2 = S)) → acc.length + us.length ≤ sizeLine → Q (acc ++ (us.filter p).map h) S → Y (compF gt t f d us acc S) Q
  | [], acc, _, _, hq => by
    rw [List.filter_nil, List.map_nil, List.append_nil] at hq
    exact ⟨hq⟩
  | u :: us, acc, hh, hl, hq => by
    obtain ⟨d1, e, ht, hy⟩ := hh u List.mem_cons_self
    obtain ⟨b, S2, e1, rfl, rfl⟩ := ht.ok
    rw [List.length_cons] at hl
    unfold compF
    rw [e]
    dsimp only
    rw [e1]
    have rest := fun v hv => hh v (List.mem_cons_of_mem _ hv)
    cases hp : p u with
    | true =>
      obtain ⟨y, S3, e2, rfl, rfl⟩ := (hy hp).ok
      dsimp only
      rw [e2]
      rw [List.filter_cons_of_pos hp, List.map_cons] at hq
      refine y_guard (decide_eq_true (by omega)) (y_compFM p h us _ rest (by rw [List.length_append, List.length_singleton]; omega) ?_)
      rw [List.append_assoc]
      exact hq
    | false =>
      rw [List.filter_cons_of_neg (by rw [hp]; decide)] at hq
      exact y_compFM p h us acc rest (by omega) hq
theorem cut_one (u : U) (us : List U) : cutU (u :: us) (some 1) none = us := cut_suf (u :: us) 1
theorem y_neSame {x y : U} {S : Sto} {Q : U → Sto → Prop} {a : PyData} (hx : toDS x S = some a) (hy : toDS y S = some a) (hs : SeqAt.shaped a = true) (hn : scalU x y = false) (h : Q (.bl false) S) : Y (neU x y S) Q := by
  unfold neU eqOk
  rw [hn, hx, hy]
  refine y_guard (by rw [hs]; rfl) ?_
  rw [eqv_refl a (SeqAt.canLay_of_shaped hs)]
  exact ⟨h⟩
def fupd (ρ : Str → Bool) (k : Str) (b : Bool) : Str → Bool := fun z => if z = k then b else ρ z
theorem Y.eq {r : R U} {a : U} {S : Sto} (h : Y r fun u S' => u = a ∧ S' = S) : r = .ok a S := by
  obtain ⟨u, S', e, rfl, rfl⟩ := h.ok
  exact e
end DL
namespace DL
open PySem PySem.Spec L2 TL PyProof.Rows
section
variable {S : Sto} {Q : U → Sto → Prop} {QA : List U → Sto → Prop}
theorem y_alt {α : Type} {a b : R α} {Q : α → Sto → Prop} (h : Y a Q) : Y (alt a b) Q := by
  obtain ⟨x, S, rfl, q⟩ := h.ok
  exact ⟨q⟩
abbrev Lit := Str × Bool
def litU (p : Lit) : U := .tup [.str p.1, .bl p.2]
end
end DL
namespace DL
open PySem PySem.Spec L2 TL PyProof.Rows
section
def clU (c : List Lit) : U := .tup (c.map litU)
variable {S : Sto} {Q : U → Sto → Prop} {QA : List U → Sto → Prop}
theorem y_eqD {x y : U} {a b : PyData} (hx : toDS x S = some a) (hy : toDS y S = some b) (ha : SeqAt.shaped a = true) (hb : SeqAt.shaped b = true) (hn : scalU x y = false) (h : Q (.bl (PyData.eqv a b)) S) : Y (eqU x y S) Q := by
  unfold DL.eqU eqOk
  rw [hn]
  show Y (match toDS x S, toDS y S with
    | some a, some b => guard (SeqAt.shaped a && SeqAt.shaped b) (R.ok (U.bl (PyData.eqv a b)) S)
    | _, _ => R.bad) Q
  rw [hx, hy]
  exact y_guard (by rw [ha, hb]; rfl) ⟨h⟩
theorem dict_loc {f : Nat} {ks : List Key} {us : List U} (hf : S[f]? = some (.dic ks us)) : dictOf (.loc f) S = some (ks, us) := by
  unfold dictOf
  simp only [hf]
end
end DL
namespace DL
open PySem PySem.Spec L2 TL PyProof.Rows
section
variable {S : Sto} {d : En} {Q : U → Sto → Prop} {QA : List U → Sto → Prop} {D : EU} {E : Exc → Sto → Prop}
theorem y_get {c f : Str} {fe : FE} (h : Y (fe d S) fun u S1 => ∃ n fs v, u = .loc n ∧ S1[n]? = some (.ins c fs) ∧ getF fs f = some v ∧ Q v S1) : Y (fGet c f fe d S) Q := y_bind (h.mono fun u S1 ⟨n, fs, v, e, e1, e2, q⟩ => by
  subst e
  show Y (match S1[n]? with
    | some (.ins c' fs) => if c' = c then oU (getF fs f) S1 else .bad
    | _ => .bad) Q
  rw [e1]
  dsimp only
  rw [if_pos rfl, e2]
  exact ⟨q⟩)
theorem w_putF {c f : Str} {fo fe : FE} (h : Y (fe d S) fun v S1 => Y (fo d S1) fun u S2 => ∃ n fs, u = .loc n ∧ S2[n]? = some (.ins c fs) ∧ fs.length < 1000 ∧ D.nx d (S2.set n (.ins c (setF f v fs)))) : WS (fPutF c f fo fe d S) D :=
  ws_toS (h.mono fun v S1 h1 => ws_toS (h1.mono fun u S2 ⟨n, fs, e, e1, hl, q⟩ => by
    subst e
    show WS (match S2[n]? with
      | some (.ins c' fs) => if c' = c ∧ fs.length < 1000 then .ok (.nx d) (S2.set n (.ins c (setF f v fs))) else .bad
      | _ => .bad) D
    rw [e1]
    dsimp only
    rw [if_pos ⟨rfl, hl⟩]
    exact ⟨q⟩))
theorem y_make {c : Str} {n : Nat} {g : List U → Sto → R U} {fa : FA} (h : Y (fa d S) fun us S1 => (us.length + 1 == n) = true ∧ Y (g (.loc S1.length :: us) (S1 ++ [.ins c []])) fun u S2 => u = .non ∧ Q (.loc S1.length) S2) : Y (fMake c n g fa d S) Q :=
  y_bind (h.mono fun us S1 ⟨e, h1⟩ => y_guard e (y_bind (h1.mono fun u S2 ⟨e1, q⟩ => by subst e1; exact ⟨q⟩)))
theorem y_meth {c m : Str} {n : Nat} {g : List U → Sto → R U} {fo : FE} {fa : FA} (h : Y (fo d S) fun u S1 => isIns c m u S1 = true ∧ Y (fa d S1) fun us S2 => (us.length + 1 == n) = true ∧ Y (g (u :: us) S2) Q) : Y (fMeth c m n g fo fa d S) Q :=
  y_bind (h.mono fun u S1 ⟨e, h1⟩ => y_guard e (y_bind (h1.mono fun us S2 ⟨e1, q⟩ => y_guard e1 q)))
theorem ins_ok {c m : Str} {n : Nat} {fs : List (Str × U)} (h : S[n]? = some (.ins c fs)) (hm : (getF fs m).isNone = true) : isIns c m (.loc n) S = true := by
  unfold isIns
  dsimp only
  rw [h]
  dsimp only
  rw [hm, decide_eq_true rfl]
  rfl
theorem atI_neg {α : Type} (l : List α) (c : α) : atI (l ++ [c]) (-1) = some c := by
  unfold atI
  have e : ixN (l ++ [c]).length (-1) = some l.length := by
    unfold ixN
    rw [List.length_append, List.length_singleton, if_neg (by decide), if_pos (by omega)]
    congr 1
    omega
  rw [e]
  simp
theorem ixLoc {f : Nat} {us : List U} {i : Int} {u : U} (hf : S[f]? = some (.lst us)) (h : atI us i = some u) : ixB (.loc f) (.int i) S = some u := by
  unfold ixB DL.listOf listM
  simp only [hf]
  exact h
theorem y_lenLc {f : Nat} {us : List U} {S : Sto} {Q : U → Sto → Prop} (hf : S[f]? = some (.lst us)) (h : Q (.int us.length) S) : Y (lenC [.loc f] S) Q := by
  have hl : lenU (.loc f) S = some us.length := by
    unfold lenU DL.listOf listM
    simp only [hf]
    try rfl
  unfold lenC
  simp only [hl]
  exact ⟨h⟩
theorem y_negI {i : Int} (h : Q (.int (-i)) S) : Y (negU (.int i) S) Q := ⟨h⟩
theorem Fr.thenNew {ms : List Nat} {S S1 S2 : Sto} {f : Nat} (a : Fr ms S S1) (b : Fr [f] S1 S2) (h : S.length ≤ f) : Fr ms S S2 :=
  ⟨Nat.le_trans a.1 b.1, fun m hm hn => (b.2 m (Nat.lt_of_lt_of_le hm a.1) (by simp; omega)).trans (a.2 m hm hn)⟩
inductive CStep where
  | giv (c : List Lit)
  | met (i j : Nat) (n : Str)
  deriving DecidableEq
def CStep.u : CStep → U
  | .giv c => .tup [.str "given", clU c]
  | .met i j n => .tup [.str "met", .int (i : Int), .int (j : Int), .str n]
theorem eqv_nil (ds : List PyData) : PyData.eqv (.list ds) (.list []) = ds.isEmpty := by
  unfold PyData.eqv
  cases ds with
  | nil => unfold PyData.eqvAll; rfl
  | cons d ds => unfold PyData.eqvAll; rfl
end
end DL
namespace DL
open PySem PySem.Spec L2
section
variable {d : En} {S : Sto} {Q : U → Sto → Prop} {QA : List U → Sto → Prop}
theorem atI_last {α : Type} {us : List α} {u : α} (h : us.getLast? = some u) : atI us (-1) = some u := by
  obtain ⟨l, rfl⟩ := List.getLast?_eq_some_iff.mp h
  exact atI_neg l u
theorem y_ixLocN {f : Nat} {us : List U} {u : U} (hf : S[f]? = some (.lst us)) (h : us.getLast? = some u) (q : Q u S) : Y (ixU (.loc f) (.int (-1)) S) Q := y_ix (ixLoc hf (atI_last h)) q
end
end DL
namespace DL
open PySem PySem.Spec L2
section
variable {d : En} {S : Sto} {Q : U → Sto → Prop} {QA : List U → Sto → Prop}
variable {n : Nat} {ks : List (List Lit)} {G : List Lit → U} {c : List Lit}
end
end DL
namespace DL
open PySem PySem.Spec L2
section
variable {d : En} {S : Sto} {Q : U → Sto → Prop} {QA : List U → Sto → Prop} {fa fb fe : FE} {ga : FA} {D : EU}
abbrev TRow := List Str × (Str → Bool)
def rowAdd (r : TRow) (p : Str × Bool) : TRow := (addS r.1 p.1, fupd r.2 p.1 p.2)
theorem w_par3 {i j l : Nat} {fa : FA} (h : Y (fa d S) fun us S1 => ∃ u v x, us = [u, v, x] ∧ D.nx (((d.set i (some u)).set j (some v)).set l (some x)) S1) : WS (fPar3 i j l fa d S) D :=
  ws_toS (h.mono fun us S1 ⟨u, v, x, e, q⟩ => by subst e; exact ⟨q⟩)
end
end DL
namespace DL
open PySem PySem.Spec L2
def trL (r : TRow) (p : Lit) : Bool := decide (p.1 ∈ r.1) && (r.2 p.1 == p.2)
def satR (r : TRow) (K : List Lit) : Bool := K.any (trL r)
def lftR (r : TRow) (K : List Lit) : List Lit := K.filter fun p => !decide (p.1 ∈ r.1)
theorem lft_mem {r : TRow} {K : List Lit} {p : Lit} : p ∈ lftR r K ↔ p ∈ K ∧ p.1 ∉ r.1 := by
  unfold lftR
  rw [List.mem_filter, Bool.not_eq_true', decide_eq_false_iff_not]
def Uni (kn : List (List Lit)) (r r' : TRow) : Prop := ∃ K ∈ kn, ∃ q, satR r K = false ∧ lftR r K = [q] ∧ r' = rowAdd r q
inductive Rch (kn : List (List Lit)) (r : TRow) : TRow → Prop
  | refl : Rch kn r r
  | step {r1 r2 : TRow} : Rch kn r r1 → Uni kn r1 r2 → Rch kn r r2
def Cnf (kn : List (List Lit)) (r : TRow) : Prop := ∃ K ∈ kn, satR r K = false ∧ lftR r K = []
def Clo (kn : List (List Lit)) (r : TRow) : Prop := ∃ r', Rch kn r r' ∧ Cnf kn r'
def SubR (r r' : TRow) : Prop := ∀ n ∈ r.1, n ∈ r'.1 ∧ r'.2 n = r.2 n
theorem SubR.refl (r : TRow) : SubR r r := fun n h => ⟨h, rfl⟩
theorem SubR.trans {a b c : TRow} (h : SubR a b) (h2 : SubR b c) : SubR a c := fun n hn => ⟨(h2 n (h n hn).1).1, ((h2 n (h n hn).1).2).trans (h n hn).2⟩
theorem rowAdd_mem {r : TRow} {p : Lit} {n : Str} : n ∈ (rowAdd r p).1 ↔ n ∈ r.1 ∨ n = p.1 := addS_mem
theorem rowAdd_val (r : TRow) (p : Lit) (n : Str) : (rowAdd r p).2 n = if n = p.1 then p.2 else r.2 n := rfl
theorem sub_add {r : TRow} {p : Lit} (h : p.1 ∉ r.1) : SubR r (rowAdd r p) := fun n hn => ⟨rowAdd_mem.mpr (.inl hn), by rw [rowAdd_val, if_neg fun (e : n = p.1) => h (by rw [← e]; exact hn)]⟩
theorem lft_new {r : TRow} {K : List Lit} {q : Lit} (h : lftR r K = [q]) : q ∈ K ∧ q.1 ∉ r.1 := lft_mem.mp (by rw [h]; simp)
theorem Rch.sub {kn : List (List Lit)} {r r' : TRow} (h : Rch kn r r') : SubR r r' := by
  induction h with
  | refl => exact SubR.refl _
  | step _ u ih =>
    obtain ⟨K, _, q, _, h2, rfl⟩ := u
    exact ih.trans (sub_add (lft_new h2).2)
theorem Clo.more {kn kn' : List (List Lit)} {r : TRow} (h : Clo kn r) (hs : ∀ K ∈ kn, K ∈ kn') : Clo kn' r := by
  obtain ⟨r1, a, K, hK, b⟩ := h
  refine ⟨r1, ?_, K, hs K hK, b⟩
  clear b hK
  induction a with
  | refl => exact .refl
  | step _ u ih =>
    obtain ⟨K, hK, q, h⟩ := u
    exact ih.step ⟨K, hs K hK, q, h⟩
end DL
set_option maxHeartbeats 1000000
namespace DL
open PySem PySem.Spec PyProof.Rows L2
end DL
namespace DL
open PySem PySem.Spec L2
section
variable {d : En} {S : Sto} {Q : U → Sto → Prop} {QA : List U → Sto → Prop} {a : U} {r : TRow} {n : Str}
theorem y_insG {f : Nat} {us : List U} {u : U} {i : Int} (hf : S[f]? = some (.lst us)) (hl : us.length < 100000) (h0 : 0 ≤ i) (h1 : i < 2 ^ 62) (h : ∀ S', S'[f]? = some (.lst (us.take i.toNat ++ [u] ++ us.drop i.toNat)) → S'.length = S.length → Fr [f] S S' → Q .non S') : Y (insM (.loc f) [.int i, u] S) Q := by
  unfold insM
  dsimp only
  rw [hf]
  refine y_guard (by rw [decide_eq_true (by rw [sizeL]; omega), decide_eq_true h0, decide_eq_true (by omega)]; rfl) ⟨?_⟩
  exact h _ (List.getElem?_set_self (List.getElem?_eq_some_iff.mp hf).1) List.length_set (Fr.set (by simp))
end
end DL
namespace Law
open PySem PySem.Spec L2 DL
local macro_rules | `(tactic| walk_at "wp") => `(tactic| (repeat (first | (with_reducible refine yY ?_; first | with_reducible refine y_var (by with_unfolding_all exact rfl) ?_ | with_reducible refine y_cons ?_ | with_reducible refine y_nil ?_ | with_reducible refine y_f2 ?_ | with_reducible refine y_C ?_ | with_reducible refine y_A ?_ | with_reducible refine y_unB ?_ | with_reducible refine y_call ?_ | with_reducible refine y_eqS ?_ | with_reducible refine y_val ?_ | with_reducible refine y_B ?_ | with_reducible refine y_tru ?_ | with_reducible refine y_tbl ?_ | with_reducible refine y_M ?_ | with_reducible refine y_rng1 ?_ | with_reducible refine y_over ?_ | with_reducible refine y_not ?_ | with_reducible refine y_and ?_ | with_reducible refine y_lst ?_ | with_reducible refine y_aComp ?_ | with_reducible refine y_tup ?_ | with_reducible refine y_f1 ?_ | with_reducible refine y_ch ?_ | with_reducible refine y_or ?_ | with_reducible refine y_andV ?_ | with_reducible refine y_notV ?_ | with_reducible refine y_loc ?_ | with_reducible refine y_dval ?_ | with_reducible refine y_dloc ?_ | with_reducible refine y_ice ?_ | with_reducible refine y_oNone ?_ | with_reducible refine y_oSome ?_ | with_reducible refine y_sl ?_ | with_reducible refine y_addI ?_ | with_reducible refine y_subI ?_ | with_reducible refine y_ltI ?_ | with_reducible refine y_leI ?_ | with_reducible refine y_gtI ?_ | with_reducible refine y_geI ?_ | with_reducible refine y_eqI ?_ | with_reducible refine y_neI ?_ | with_reducible refine y_eqB ?_ | with_reducible refine y_neB ?_ | with_reducible refine y_neS ?_ | with_reducible refine y_isN ?_ | with_reducible refine y_isnN ?_ | with_reducible refine y_wget ?_ | with_reducible refine y_mkx1 ?_ | with_reducible refine y_aAdd ?_ | with_reducible refine y_cn ?_) | (with_reducible refine wW ?_; first | with_reducible refine w_seq ?_ | with_reducible refine w_set ?_ | with_reducible refine w_expr ?_ | with_reducible refine w_ret ?_ | with_reducible refine w_for ?_ | with_reducible refine w_retN ?_ | with_reducible refine w_store ?_ | with_reducible refine w_nop ?_ | with_reducible refine w_asg ?_ | with_reducible refine w_ct ?_ | with_reducible refine w_brk ?_ | with_reducible refine w_ln ?_) | with_reducible refine And.intro (len_ok (by with_unfolding_all exact rfl)) ?_)))
theorem pow18 : (10 : Int) ^ (18 : Int).toNat = 1000000000000000000 := by decide
theorem pow6 : (10 : Int) ^ (6 : Int).toNat = 1000000 := by decide
theorem primes_in {p : U} (h : p ∈ ([.int 2147483647, .int 2147483629, .int 2147483587, .int 2147483579, .int 2147483563, .int 2147483549, .int 2147483543] : List U)) : ∃ i : Int, p = .int i ∧ 2147483543 ≤ i ∧ i ≤ 2147483647 := by
  simp only [List.mem_cons, List.mem_nil_iff, or_false] at h
  rcases h with rfl | rfl | rfl | rfl | rfl | rfl | rfl <;> exact ⟨_, rfl, by decide, by decide⟩
theorem draw_step {k n : Nat} {b many c : Int} {S : Sto} (hc : 1 ≤ c) (t : Tape n b S) (hb : b ≤ 2 ^ 100) (h0 : 0 < many) (h1 : many < 2 ^ 200)
    (hrec : 1000000 < many → ∀ S1, Tape n (b + 1) S1 → Y (call k i_law_draw [.loc n, .int (many / 1000000 + 1)] S1) (Drawn1 n (b + c) (many / 1000000 + 1) S1)) :
    Y (call (k + 1) i_law_draw [.loc n, .int many] S) (Drawn1 n (b + c) many S) := by
  obtain ⟨cs, sp, lf, h, hl, hs0, hsb, hf⟩ := t
  have hn : n < S.length := (List.getElem?_eq_some_iff.mp h).1
  refine y_run ?_
  show WS (b_law_draw (call k) [some (.loc n), some (.int many), none, none, none, none, none, none, none] S) _
  unfold b_law_draw
  walk_at "wp"
  refine w_if ?_
  walk_at "wp"
  refine y_ix (ix_left h) ?_
  walk_at "wp"
  refine ite_b (fun c => ?_) (fun c => ?_)
  · have c := of_decide_eq_true c
    walk_at "wp"
    refine y_ix (ix_left h) ?_
    walk_at "wp"
    refine y_modI h0 ?_
    walk_at "wp"
    refine y_ix (ix_left h) ?_
    walk_at "wp"
    refine y_fdivI h0 (log_lt h0 h1) ?_
    walk_at "wp"
    refine ⟨_, st_left h, ?_⟩
    walk_at "wp"
    refine ⟨lf % many, rfl, Int.emod_nonneg _ (by omega), Int.emod_lt_of_pos _ h0, ?_, ?_, ?_⟩
    · exact ⟨cs, sp, lf / many, List.getElem?_set_self hn, hl, hs0, by omega, Int.ediv_nonneg hf (by omega)⟩
    · exact List.length_set
    · exact Fr.set (List.mem_singleton.mpr rfl)
  · walk_at "wp"
    refine y_ix (ix_spot h) ?_
    walk_at "wp"
    refine ⟨_, st_spot h, ?_⟩
    have h2 : (S.set n (tapeO cs (sp + 1) lf))[n]? = some (tapeO cs (sp + 1) lf) := List.getElem?_set_self hn
    have f2 : Fr [n] S (S.set n (tapeO cs (sp + 1) lf)) := Fr.set (List.mem_singleton.mpr rfl)
    have l2 : (S.set n (tapeO cs (sp + 1) lf)).length = S.length := List.length_set
    generalize S.set n (tapeO cs (sp + 1) lf) = S2 at h2 f2 l2 ⊢
    walk_at "wp"
    refine y_orC hl (show (oU (ixB (.loc n) (.str "cells") S2) S2) = _ by rw [ix_cells h2]; rfl) rfl fun ds d0 d1 => ?_
    walk_at "wp"
    refine y_lenL ?_
    rw [List.length_map]
    refine y_modI (by omega) ?_
    refine y_ixI (Int.emod_nonneg _ (by omega)) (Int.emod_lt_of_pos _ (by omega)) fun cell => ?_
    walk_at "wp"
    refine w_ifP (fun b => b = true → 1000000000000000000 ≤ cell) ?_ (fun hc => ?_) (fun _ => ?_)
    · walk_at "wp"
      refine y_powI (by decide) (by decide) (by decide) ?_
      rw [pow18]
      walk_at "wp"
      refine ite_b (fun c1 => ?_) (fun c1 => ?_)
      · walk_at "wp"
        refine y_lenL ?_
        walk_at "wp"
        exact ⟨rfl, fun _ => of_decide_eq_true c1⟩
      · exact ⟨rfl, fun h => by cases h⟩
    · have hc := hc rfl
      walk_at "wp"
      refine y_powI (by decide) (by decide) (by decide) ?_
      rw [pow18]
      walk_at "wp"
      refine y_fdivI h0 (log_lt h0 h1) ?_
      walk_at "wp"
      refine ⟨_, st_left h2, ?_⟩
      walk_at "wp"
      refine y_powI (by decide) (by decide) (by decide) ?_
      rw [pow18]
      walk_at "wp"
      refine y_modI h0 ?_
      walk_at "wp"
      refine ⟨_, rfl, Int.emod_nonneg _ (by omega), Int.emod_lt_of_pos _ h0, ?_, ?_, ?_⟩
      · exact ⟨cs, sp + 1, (cell - 1000000000000000000) / many, List.getElem?_set_self (by omega), hl, by omega, by omega, Int.ediv_nonneg (by omega) (by omega)⟩
      · rw [List.length_set]; exact l2
      · exact f2.trans (Fr.set (List.mem_singleton.mpr rfl))
    have hm0 : 0 ≤ sp % 7 := Int.emod_nonneg _ (by decide)
    have hm1 : sp % 7 < 7 := Int.emod_lt_of_pos _ (by decide)
    walk_at "wp"
    refine y_modI (by decide) ?_
    refine y_ixL hm0 hm1 fun p hp _ => ?_
    obtain ⟨p, rfl, hp0, hp1⟩ : ∃ i : Int, p = .int i ∧ 2147483543 ≤ i ∧ i ≤ 2147483647 := primes_in hp
    walk_at "wp"
    refine y_modI (by omega) ?_
    have c0 := Int.emod_nonneg cell (by omega : p ≠ 0)
    have c1 := Int.emod_lt_of_pos cell (by omega : 0 < p)
    walk_at "wp"
    with_reducible refine y_mulI ?_ ?_
    · exact mul_ok (a := 40) (b := 40) (natAbs_lt c0 (by omega)) (by decide) (by decide)
    walk_at "wp"
    with_reducible refine y_mulI ?_ ?_
    · exact mul_ok (a := 40) (b := 101) (by decide) (natAbs_lt hs0 (by omega)) (by decide)
    walk_at "wp"
    with_reducible refine y_mulI ?_ ?_
    · exact mul_ok (a := 150) (b := 101) (natAbs_lt (by omega) (by omega)) (natAbs_lt hs0 (by omega)) (by decide)
    walk_at "wp"
    with_reducible refine y_mulI ?_ ?_
    · exact mul_ok (a := 40) (b := 101) (by decide) (natAbs_lt hs0 (by omega)) (by decide)
    walk_at "wp"
    refine y_modI (by omega) ?_
    generalize (cell % p * 48271 + 7919 * sp * sp + 69621 * sp + 1) = s1
    have s0 := Int.emod_nonneg s1 (by omega : p ≠ 0)
    have s2 := Int.emod_lt_of_pos s1 (by omega : 0 < p)
    generalize s1 % p = s1 at s0 s2 ⊢
    walk_at "wp"
    with_reducible refine y_mulI ?_ ?_
    · exact mul_ok (a := 40) (b := 41) (natAbs_lt s0 (by omega)) (natAbs_lt (by omega) (by omega)) (by decide)
    walk_at "wp"
    refine y_modI (by decide) ?_
    refine y_ixL (Int.emod_nonneg _ (by decide)) (Int.emod_lt_of_pos _ (by decide)) fun q hq _ => ?_
    obtain ⟨q, rfl, hq0, hq1⟩ : ∃ i : Int, q = .int i ∧ 2147483543 ≤ i ∧ i ≤ 2147483647 := primes_in hq
    refine y_modI (by omega) ?_
    generalize s1 * (s1 + 16807) = s3
    have s4 := Int.emod_nonneg s3 (by omega : q ≠ 0)
    have s5 := Int.emod_lt_of_pos s3 (by omega : 0 < q)
    generalize s3 % q = s3 at s4 s5 ⊢
    walk_at "wp"
    with_reducible refine y_mulI ?_ ?_
    · exact mul_ok (a := 40) (b := 41) (natAbs_lt s4 (by omega)) (natAbs_lt s4 (by omega)) (by decide)
    walk_at "wp"
    refine y_modI (by omega) ?_
    walk_at "wp"
    refine y_fdivI (by decide) (by decide) ?_
    generalize s3 * s3 % p / 64 = s6
    walk_at "wp"
    refine w_if ?_
    walk_at "wp"
    refine y_powI (by decide) (by decide) (by decide) ?_
    rw [pow6]
    walk_at "wp"
    refine ite_b (fun c2 => ?_) (fun c2 => ?_)
    · have c2 := of_decide_eq_true c2
      walk_at "wp"
      refine y_powI (by decide) (by decide) (by decide) ?_
      rw [pow6]
      walk_at "wp"
      refine y_modI (by decide) ?_
      walk_at "wp"
      refine y_powI (by decide) (by decide) (by decide) ?_
      rw [pow6]
      walk_at "wp"
      refine y_powI (by decide) (by decide) (by decide) ?_
      rw [pow6]
      walk_at "wp"
      refine y_fdivI (by decide) (by decide) ?_
      walk_at "wp"
      refine ⟨rfl, ?_⟩
      refine (hrec c2 S2 ⟨cs, sp + 1, lf, h2, hl, by omega, by omega, hf⟩).mono ?_
      rintro _ S3 ⟨r, rfl, r0, r1, t3, l3, f3⟩
      with_reducible refine y_mulI ?_ ?_
      · exact mul_ok (a := 40) (b := 201) (by decide) (natAbs_lt r0 (by omega)) (by decide)
      walk_at "wp"
      refine y_modI h0 ?_
      exact ⟨_, rfl, Int.emod_nonneg _ (by omega), Int.emod_lt_of_pos _ h0, t3, l3.trans l2, f2.trans f3⟩
    · walk_at "wp"
      refine y_modI h0 ?_
      exact ⟨_, rfl, Int.emod_nonneg _ (by omega), Int.emod_lt_of_pos _ h0, ⟨cs, sp + 1, lf, h2, hl, by omega, by omega, hf⟩, l2, f2⟩
theorem draw {k n : Nat} {b many : Int} {S : Sto} (t : Tape n b S) (hb : b ≤ 2 ^ 100) (h0 : 0 < many) (h1 : many ≤ 1000000) : Y (call (k + 1) i_law_draw [.loc n, .int many] S) (Drawn1 n (b + 30) many S) :=
  draw_step (by decide) t hb h0 (by omega) fun h => absurd h (by omega)
def w7 : List Str := ["not", "and", "or", "gives", "is", "yes", "no"]
def lettersB (z : Str) : Bool := z.cps.toList.all fun c => inStr ⟨#[c]⟩ "abcdefghijklmnopqrstuvwxyz"
def wordB : U → Bool
  | .str z => decide (1 ≤ z.length) && decide (z.length ≤ 8) && lettersB z && !decide (z ∈ w7)
  | _ => false
theorem y_inStr {a b : Str} {S : Sto} {Q : U → Sto → Prop} (h : Q (.bl (inStr a b)) S) : Y (inU (.str a) (.str b) S) Q := ⟨h⟩
theorem y_ninT {us : List U} (ws : List Str) {w : Str} {S : Sto} {Q : U → Sto → Prop} (e : us = ws.map .str) (h : Q (.bl (!decide (w ∈ ws))) S) : Y (ninU (.str w) (.tup us) S) Q := by
  subst e
  have e : inB (.str w) (.tup (ws.map .str)) S = some (decide (w ∈ ws)) := by
    unfold inB
    dsimp only
    rw [all_flat, any_str]
    rfl
  unfold ninU
  rw [e]
  exact ⟨h⟩
theorem all_map {α : Type} {us : List α} (g : α → Bool) {S : Sto} {Q : U → Sto → Prop} (h : Q (.bl (us.all g)) S) : Y (allC [.lst (us.map fun c => U.bl (g c))] S) Q := by
  have e : (us.map g).all id = us.all g := by rw [List.all_map]; rfl
  unfold allC overL DL.listOf listM
  simp only [boolsOf_map, e]
  exact ⟨h⟩
theorem wordB_str (z : Str) : wordB (.str z) = (decide (1 ≤ z.length) && decide (z.length ≤ 8) && lettersB z && !decide (z ∈ w7)) := rfl
theorem is_word {k c m : Nat} {u : U} {S : Sto} (p : Pl c m u) : Y (call (k + 1) i_is_word [u] S) fun r S' => r = .bl (wordB u) ∧ S' = S := by
  refine y_run ?_
  show WS (b_is_word (call k) [some u, none] S) _
  unfold b_is_word c_LETTERS c_WORDS_OF_TEXTS c_LONGEST_WORD
  walk_at "wp"
  refine w_ifP (fun b => (b = true → wordB u = false) ∧ (b = false → ∃ z, u = .str z ∧ 1 ≤ z.length ∧ z.length ≤ 8)) ?_ (fun h => ?_) (fun h => ?_)
  · walk_at "wp"
    refine y_isS p ?_
    walk_at "wp"
    cases u with
    | str z =>
      have hz : z.length ≤ sizeLine := by cases m <;> (unfold Pl at p; exact p.2)
      show Y _ _
      walk_at "wp"
      refine y_lenZ hz ?_
      walk_at "wp"
      refine ite_b (fun c1 => ?_) (fun c1 => ?_)
      · walk_at "wp"
        refine ⟨rfl, fun h => ?_, fun h => ⟨z, rfl, ?_⟩⟩
        · rw [wordB_str]
          have : ¬ z.length ≤ 8 := fun q => by
            rw [decide_eq_true (by omega : (z.length : Int) ≤ 8)] at h
            cases h
          rw [decide_eq_false this, Bool.and_false]
          rfl
        · have h1 := of_decide_eq_true c1
          have h2 : decide ((z.length : Int) ≤ 8) = true := by
            cases q : decide ((z.length : Int) ≤ 8) with
            | true => rfl
            | false => rw [q] at h; cases h
          have h2 := of_decide_eq_true h2
          omega
      · walk_at "wp"
        refine ⟨rfl, fun _ => ?_, fun h => by cases h⟩
        rw [wordB_str]
        have := of_decide_eq_false c1
        rw [decide_eq_false (by omega : ¬ 1 ≤ z.length)]
        rfl
    | _ => exact ⟨rfl, fun _ => rfl, fun h => by cases h⟩
  · walk_at "wp"
    exact ⟨by rw [h.1 rfl], rfl⟩
  · obtain ⟨z, rfl, h1, h8⟩ := h.2 rfl
    walk_at "wp"
    refine ⟨_, rfl, ?_⟩
    refine y_compM (fun v => match v with | .str c => .bl (inStr c "abcdefghijklmnopqrstuvwxyz") | v => v) _ _ ?_ (by rw [List.length_map, sizeL, Array.length_toList]; show 0 + z.length ≤ _; omega) ?_
    · intro v hv
      obtain ⟨c, hc, rfl⟩ := List.mem_map.mp hv
      refine ⟨_, rfl, ?_⟩
      walk_at "wp"
      refine y_inStr ?_
      exact ⟨rfl, rfl⟩
    walk_at "wp"
    rw [List.nil_append, List.map_map]
    refine all_map (fun c => inStr ⟨#[c]⟩ "abcdefghijklmnopqrstuvwxyz") ?_
    walk_at "wp"
    refine ite_b (fun c1 => ?_) (fun c1 => ?_)
    · walk_at "wp"
      refine y_ninT w7 rfl ?_
      refine ⟨?_, rfl⟩
      rw [wordB_str]
      unfold lettersB
      rw [c1, decide_eq_true h1, decide_eq_true h8]
      rfl
    · refine ⟨?_, rfl⟩
      rw [wordB_str]
      unfold lettersB
      rw [c1, decide_eq_true h1, decide_eq_true h8]
      rfl
theorem letters_low : Low "abcdefghijklmnopqrstuvwxyz" := by unfold Low; decide +kernel
theorem letters_len : (Str.length "abcdefghijklmnopqrstuvwxyz") = 26 := by decide +kernel
def ownW : List Str := ["nota", "andy", "org", "isa", "yesno", "given", "noa", "same"]
theorem own_split : Txt.split "nota andy org isa yesno given noa same" " " = ownW := by decide +kernel
theorem own_low : ∀ z ∈ ownW, Low z ∧ 1 ≤ z.length ∧ z.length ≤ 8 := by unfold Low; decide +kernel
theorem y_letter {i : Int} {S : Sto} {Q : U → Sto → Prop} (h0 : 0 ≤ i) (h1 : i < 26) (h : ∀ z : Str, Low z → z.length = 1 → Q (.str z) S) : Y (ixU (.str "abcdefghijklmnopqrstuvwxyz") (.int i) S) Q :=
  y_ixS (by rw [letters_len]; decide) h0 (by rw [show (Str.cps "abcdefghijklmnopqrstuvwxyz").toList.length = 26 from by decide +kernel]; exact h1) fun c hc _ => h _ (letters_low.one hc) rfl
def WordL (z : Str) : Prop := Low z ∧ 1 ≤ z.length ∧ z.length ≤ 8
def lastS (z : Str) : Option Nat := (TL.tl z).getLast?
theorem last_app (x : Str) (c : Nat) : lastS (x ++ ⟨#[c]⟩) = some c := by
  unfold lastS
  rw [TL.tl_append]
  show (TL.tl x ++ [c]).getLast? = some c
  rw [List.getLast?_append]
  rfl
theorem nodup_sub {α : Type} [DecidableEq α] : ∀ {l m : List α}, l.Nodup → (∀ x ∈ l, x ∈ m) → l.length ≤ m.length
  | [], m, _, _ => Nat.zero_le _
  | x :: l, m, hn, h => by
    rw [List.nodup_cons] at hn
    have hx := h x List.mem_cons_self
    have := nodup_sub (l := l) (m := m.erase x) hn.2 fun y hy => (List.mem_erase_of_ne (fun e => hn.1 (by rw [← e]; exact hy))).mpr (h y (List.mem_cons_of_mem _ hy))
    rw [List.length_erase_of_mem hx] at this
    have hp : 0 < m.length := List.length_pos_of_mem hx
    rw [List.length_cons]
    omega
def lettersL : List Nat := TL.tl "abcdefghijklmnopqrstuvwxyz"
theorem letters_nd : (lettersL.map some).Nodup := by decide +kernel
theorem letters_26 : lettersL.length = 26 := by decide +kernel
theorem not_all {bad : List Str} (hb : bad.length < 26) : ¬ ∀ c ∈ lettersL, some c ∈ bad.map lastS := fun h => by
  have := nodup_sub (m := bad.map lastS) letters_nd fun x hx => by
    obtain ⟨c, hc, rfl⟩ := List.mem_map.mp hx
    exact h c hc
  rw [List.length_map, List.length_map, letters_26] at this
  omega
theorem words {k n m : Nat} {b : Int} {S : Sto} (t0 : Tape n b S) (hb : b + 30 * (8 + 3 * m) ≤ 2 ^ 100) (hm : m ≤ 18) :
    Y (call (k + 2) i_law_words [.loc n, .int m] S) fun u S' => ∃ ws : List Str, u = .lst (ws.map .str) ∧ ws.length = m ∧ (∀ w ∈ ws, WordL w ∧ w ∉ w7) ∧ ws.Nodup ∧ Tape n (b + 30 * (8 + 3 * m)) S' ∧ Fr [n] S S' := by
  refine y_run ?_
  show WS (b_law_words (call (k + 1)) [some (.loc n), some (.int m), none, none, none, none, none, none, none, none, none] S) _
  unfold b_law_words
  walk_at "wp"
  refine ⟨rfl, ?_⟩
  walk_at "wp"
  refine y_guard (by decide +kernel) (y_ok ?_)
  rw [own_split]
  walk_at "wp"
  refine ⟨rfl, ?_⟩
  walk_at "wp"
  refine ⟨rfl, (draw t0 (by omega) (by first | decide | omega) (by first | decide | omega)).mono ?_⟩; rintro _ S1 ⟨r1, rfl, r10, r11, t1, l1, f1⟩
  walk_at "wp"
  refine ⟨_, rfl, by omega, by omega, ?_⟩
  refine (y_comp (Q := fun us S2 => ∃ ys : List Str, us = ys.map .str ∧ (∀ y ∈ ys, Low y ∧ y.length = 1) ∧ 1 ≤ ys.length ∧ ys.length ≤ 6 ∧ Tape n (b + 210) S2 ∧ Fr [n] S S2)
    (fun us acc S2 => ∃ ys : List Str, acc = ys.map .str ∧ (∀ y ∈ ys, Low y ∧ y.length = 1) ∧ (us.length : Int) + ys.length = 1 + r1 ∧ Tape n (b + 30 + 30 * ys.length) S2 ∧ Fr [n] S S2) ?_ ?_ _ _ _ ?_).mono ?_
  · rintro u us _ S2 ⟨ys, rfl, hy, hc, t2, f2⟩
    rw [List.length_cons] at hc
    refine ⟨by rw [List.length_map, sizeL]; omega, _, rfl, ?_⟩
    refine y_ok ?_
    rw [if_pos rfl]
    walk_at "wp"
    refine ⟨rfl, (draw t2 (by omega) (by first | decide | omega) (by first | decide | omega)).mono ?_⟩; rintro _ S3 ⟨r3, rfl, r30, r31, t3, l3, f3⟩
    refine y_letter r30 r31 fun z hz1 hz2 => ?_
    refine ⟨ys ++ [z], by rw [List.map_append]; rfl, fun y h => (List.mem_append.mp h).elim (hy y) (fun h => ?_), by rw [List.length_append, List.length_singleton]; omega, t3.mono (by rw [List.length_append, List.length_singleton]; omega), f2.trans f3⟩
    rw [List.mem_singleton.mp h]
    exact ⟨hz1, hz2⟩
  · rintro _ S2 ⟨ys, rfl, hy, hc, t2, f2⟩
    exact ⟨ys, rfl, hy, by simp only [List.length_nil] at hc; omega, by simp only [List.length_nil] at hc; omega, t2.mono (by simp only [List.length_nil] at hc; omega), f2⟩
  · exact ⟨[], rfl, (by intro y h; cases h), by rw [rng_len]; simp only [List.length_nil]; omega, t1.mono (by simp only [List.length_nil]; omega), f1⟩
  rintro _ S2 ⟨ys, rfl, hy, hy1, hy6, t2, f2⟩
  walk_at "wp"
  refine y_join1 (fun y h => (hy y h).2) (by omega) ?_
  have hbl : Low (Txt.join "" ys) := Low.join fun y h => (hy y h).1
  have hbn : (Txt.join "" ys).length = ys.length := len_join fun y h => (hy y h).2
  generalize Txt.join "" ys = base at hbl hbn ⊢
  walk_at "wp"
  have f3 : Fr [n] S (S2 ++ [.lst []]) := f2.trans Fr.push
  have t3 : Tape n (b + 210) (S2 ++ [.lst []]) := t2.fr (ms := []) Fr.push (by simp)
  have hf : (S2 ++ [Ob.lst []])[S2.length]? = some (.lst []) := sto_snoc
  have hfs : S.length ≤ S2.length := f2.1
  have hfn : n < S.length := t0.lt
  generalize S2 ++ [Ob.lst []] = S3 at f3 t3 hf ⊢
  generalize S2.length = f at hf hfs ⊢
  clear hy
  walk_at "wp"
  refine ⟨_, rfl, by omega, by omega, ?_⟩
  refine w_loop (fun us d S4 => ∃ (ws : List Str) (x6 x7 x8 x9 x10 : Option U), d = [some (.loc n), some (.int m), some (.str "abcdefghijklmnopqrstuvwxyz"), some (.lst (ownW.map .str)), some (.str base), some (.loc f), x6, x7, x8, x9, x10] ∧ us.length + ws.length = m ∧ (∀ w ∈ ws, WordL w ∧ w ∉ w7) ∧ ws.Nodup ∧ Tape n (b + 210 + 90 * ws.length) S4 ∧ S4[f]? = some (.lst (ws.map .str)) ∧ Fr [n] S S4) ?_ ?_ _ _ _ ?_
  · rintro u us _ S4 ⟨ws, x6, x7, x8, x9, x10, rfl, hc, hw, hnd, t4, hf4, f4⟩
    rw [List.length_cons] at hc
    refine ⟨_, rfl, ?_⟩
    walk_at "wp"
    refine ⟨rfl, (draw t4 (by omega) (by first | decide | omega) (by first | decide | omega)).mono ?_⟩; rintro _ S5 ⟨r5, rfl, r50, r51, t5, l5, f5⟩
    refine y_letter r50 r51 fun z hz1 hz2 => ?_
    walk_at "wp"
    refine y_addS (by rw [sizeL]; omega) ?_
    walk_at "wp"
    refine y_addS (by rw [sizeL]; omega) ?_
    walk_at "wp"
    refine y_addS (by rw [sizeL]; omega) ?_
    walk_at "wp"
    refine y_addS (by rw [len_app, sizeL]; omega) ?_
    walk_at "wp"
    refine ⟨rfl, (draw t5 (by omega) (by first | decide | omega) (by first | decide | omega)).mono ?_⟩; rintro _ S6 ⟨r6, rfl, r60, r61, t6, l6, f6⟩
    refine y_ixL r60 r61 fun o ho _ => ?_
    obtain ⟨o, hoo, rfl⟩ := List.mem_map.mp ho
    have ho := own_low o hoo
    walk_at "wp"
    refine ⟨rfl, (draw t6 (by omega) (by first | decide | omega) (by first | decide | omega)).mono ?_⟩; rintro _ S7 ⟨r7, rfl, r70, r71, t7, l7, f7⟩
    refine y_ixL r70 r71 fun w0 hw0 _ => ?_
    obtain ⟨w0, rfl, hl0, hn0⟩ : ∃ z, w0 = .str z ∧ Low z ∧ 1 ≤ z.length ∧ z.length ≤ 16 := by
      simp only [List.mem_cons, List.mem_nil_iff, or_false] at hw0
      rcases hw0 with rfl | rfl | rfl | rfl | rfl | rfl
      · exact ⟨_, rfl, hbl, by omega⟩
      · exact ⟨_, rfl, hbl.app hz1, by rw [len_app]; omega⟩
      · exact ⟨_, rfl, hz1.app hbl, by rw [len_app]; omega⟩
      · exact ⟨_, rfl, hz1, by omega⟩
      · exact ⟨_, rfl, (hbl.app hz1).app hz1, by rw [len_app, len_app]; omega⟩
      · exact ⟨_, rfl, ho.1, by omega⟩
    walk_at "wp"
    refine ⟨_, rfl, ?_⟩
    refine y_slS (by rw [sizeL]; omega) ?_
    have hw1 : WordL (cutS w0 none (some ((8 : Nat) : Int))) := ⟨hl0.take 8, by rw [len_take]; omega, by rw [len_take]; omega⟩
    generalize cutS w0 none (some 8) = w1 at hw1 ⊢
    have hf7 : S7[f]? = some (.lst (ws.map .str)) := f7.get (f6.get (f5.get hf4 (by simp; omega)) (by simp; omega)) (by simp; omega)
    have t7 : Tape n (b + 210 + 90 * (ws.length + 1)) S7 := t7.mono (by omega)
    have f7 : Fr [n] S S7 := f4.trans (f5.trans (f6.trans f7))
    clear hw0 hz1 hz2 ho t6 t5 f5 f6
    walk_at "wp"
    refine ⟨_, rfl, ?_⟩
    refine w_loop (fun us d S8 => S8 = S7 ∧ ∃ (P rest : List Nat) (w : Str) (x6 x7 x8 x10 : Option U), us = rest.map (fun c => .str ⟨#[c]⟩) ∧ P ++ rest = lettersL ∧ (w ∉ ws ++ w7 ∨ ∀ c ∈ P, some c ∈ (ws ++ w7).map lastS) ∧ d = [some (.loc n), some (.int m), some (.str "abcdefghijklmnopqrstuvwxyz"), some (.lst (ownW.map .str)), some (.str base), some (.loc f), x6, x7, x8, some (.str w), x10] ∧ WordL w) ?_ ?_ _ _ _ ?_
    · rintro u us _ _ ⟨rfl, P, rest, w, x6, x7, x8, x10, e, hP, hbad, rfl, hw2⟩
      cases rest with
      | nil => cases e
      | cons c rest =>
      cases e
      have hcl : c ∈ lettersL := by rw [← hP]; simp
      have hc1 : Low ⟨#[c]⟩ := letters_low.one hcl
      have hc2 : Str.length ⟨#[c]⟩ = 1 := rfl
      have hP2 : (P ++ [c]) ++ rest = lettersL := by rw [List.append_assoc]; exact hP
      refine ⟨_, rfl, ?_⟩
      refine w_ifP (fun t => t = decide (w ∈ ws ++ w7)) ?_ (fun hq => ?_) (fun hq => ?_)
      · walk_at "wp"
        refine y_inL hf7 ?_
        walk_at "wp"
        by_cases q1 : w ∈ ws
        · rw [decide_eq_true q1]
          exact ⟨rfl, by rw [decide_eq_true (List.mem_append.mpr (.inl q1))]⟩
        · rw [decide_eq_false q1]
          show Y _ _
          walk_at "wp"
          refine y_inT w7 rfl ?_
          walk_at "wp"
          refine ⟨rfl, ?_⟩
          congr 1
          rw [List.mem_append]
          simp [q1]
      · walk_at "wp"
        refine ⟨_, rfl, ?_⟩
        refine y_slS (by rw [sizeL]; have := hw2.2.2; omega) ?_
        have h3 : Low (cutS w none (some ((7 : Nat) : Int)) ++ ⟨#[c]⟩) := (hw2.1.take 7).app hc1
        have h4 : (cutS w none (some ((7 : Nat) : Int)) ++ ⟨#[c]⟩).length = min 7 w.length + 1 := by rw [len_app, len_take, hc2]
        have h5 : (cutS w none (some ((7 : Nat) : Int))).length ≤ 7 := by rw [len_take]; omega
        walk_at "wp"
        refine y_addS (by rw [sizeL, hc2]; exact Nat.le_trans (Nat.add_le_add_right h5 1) (by decide)) ?_
        refine ⟨rfl, P ++ [c], rest, _, _, _, _, _, rfl, hP2, ?_, rfl, h3, by rw [show (cutS w none (some 7) ++ ⟨#[c]⟩).length = _ from h4]; omega, by rw [show (cutS w none (some 7) ++ ⟨#[c]⟩).length = _ from h4]; omega⟩
        by_cases q2 : (cutS w none (some 7) ++ ⟨#[c]⟩) ∈ ws ++ w7
        · refine .inr fun c' hc' => ?_
          rcases List.mem_append.mp hc' with hc' | hc'
          · rcases hbad with hbad | hbad
            · exact absurd (of_decide_eq_true hq.symm) hbad
            · exact hbad c' hc'
          · rw [List.mem_singleton.mp hc']
            exact List.mem_map.mpr ⟨_, q2, last_app _ c⟩
        · exact .inl q2
      · walk_at "wp"
        exact ⟨rfl, P ++ [c], rest, _, _, _, _, _, rfl, hP2, .inl (of_decide_eq_false hq.symm), rfl, hw2⟩
    · rintro d _ ⟨rfl, P, rest, w, x6, x7, x8, x10, e, hP, hbad, rfl, hw2⟩
      have hgood : w ∉ ws ++ w7 := by
        rcases hbad with hbad | hbad
        · exact hbad
        · cases rest with
          | cons c rest => cases e
          | nil =>
            rw [List.append_nil] at hP
            subst hP
            exact absurd hbad (not_all (by rw [List.length_append, show w7.length = 7 from rfl]; omega))
      have hg1 : w ∉ ws := fun q => hgood (List.mem_append.mpr (.inl q))
      have hg2 : w ∉ w7 := fun q => hgood (List.mem_append.mpr (.inr q))
      walk_at "wp"
      refine ⟨ty_list hf7, ?_⟩
      walk_at "wp"
      refine y_app hf7 (by rw [List.length_map, sizeL]; omega) ?_
      refine ⟨ws ++ [w], _, _, _, _, _, rfl, by rw [List.length_append, List.length_singleton]; omega, fun v hv => (List.mem_append.mp hv).elim (hw v) (fun h => by rw [List.mem_singleton.mp h]; exact ⟨hw2, hg2⟩), List.nodup_append.mpr ⟨hnd, List.pairwise_singleton _ _, fun a ha b hb e => hg1 (by rw [← List.mem_singleton.mp hb, ← e]; exact ha)⟩, ?_, ?_, f7.setNew hfs⟩
      · rw [List.length_append, List.length_singleton]
        exact t7.fr (ms := [f]) (Fr.set (by simp)) (by simp; omega)
      · rw [List.map_append]
        exact List.getElem?_set_self (List.getElem?_eq_some_iff.mp hf7).1
    · exact ⟨rfl, [], lettersL, w1, _, _, _, _, rfl, rfl, .inr fun c hc => (by cases hc), rfl, hw1⟩
  · rintro d S4 ⟨ws, x6, x7, x8, x9, x10, rfl, hc, hw, hnd, t4, hf4, f4⟩
    walk_at "wp"
    refine ⟨f, _, rfl, hf4, ws, rfl, by simp only [List.length_nil] at hc; omega, hw, hnd, ?_, f4.setNew hfs⟩
    exact (t4.fr (ms := [f]) (Fr.set (by simp)) (by simp; omega)).mono (by simp only [List.length_nil] at hc; omega)
  · exact ⟨[], none, none, none, none, none, rfl, by rw [rng_len]; simp, (by intro w h; cases h), .nil, t3.mono (by simp only [List.length_nil]; omega), hf, f3⟩
theorem tape {k : Nat} (ns : List Int) (hn : ns.length ≤ 63) (S : Sto) : Y (call (k + 1) i_law_tape [.frz (ns.map .int)] S) fun u S' => u = .loc S.length ∧ Tape S.length 0 S' ∧ S'.length = S.length + 1 := by
  refine y_run ?_
  show WS (b_law_tape (call k) [some (.frz (ns.map .int))] S) _
  unfold b_law_tape
  walk_at "wp"
  refine Y.of (show dDisp _ _ _ = .ok ([.inr "cells", .inr "spot", .inr "left"], [.lst (cutU (ns.map .int) none (some 63)), .int 0, .int 0]) S from rfl) ?_
  refine ⟨rfl, ⟨ns, 0, 0, ?_, hn, by decide, by decide, by decide⟩, by simp⟩
  rw [show cutU (ns.map U.int) none (some 63) = ns.map .int from by rw [show (63 : Int) = ((63 : Nat) : Int) from rfl, cut_pre, List.take_of_length_le (by rw [List.length_map]; exact hn)]]
  exact sto_snoc
def SaidP (n f : Nat) (ws : List Str) (b L : Int) (d : Nat) (S : Sto) (u : U) (S' : Sto) : Prop :=
  ∃ (x : Say) (L' : Int), u = x.u ∧ x.On (· ∈ ws) ∧ x.deep ≤ max d 1 ∧ S'[f]? = some (.lst [.int L']) ∧ (0 ≤ L → 0 ≤ L') ∧ (x.parts : Int) + L' ≤ 1 + L ∧ Tape n (b + cst d) S' ∧ Fr [n, f] S S'
theorem say_step {n f : Nat} {ws : List Str} (hnf : n ≠ f) (hw0 : 1 ≤ ws.length) (hw1 : ws.length ≤ 1000) (d k : Nat) {b L : Int} {S : Sto} (t0 : Tape n b S) (hb : b + cst d ≤ 2 ^ 100) (hf : S[f]? = some (.lst [.int L]))
    (hrec : ∀ e, d = e + 1 → ∀ {b L : Int} {S : Sto}, Tape n b S → b + cst e ≤ 2 ^ 100 → S[f]? = some (.lst [.int L]) → Y (call (k + 1) i_law_saying [.loc n, .lst (ws.map .str), .loc f, .int e] S) (SaidP n f ws b L e S)) :
    Y (call (k + 2) i_law_saying [.loc n, .lst (ws.map .str), .loc f, .int d] S) (SaidP n f ws b L d S) := by
  have hc := cst_pos d
  refine y_run ?_
  show WS (b_law_saying (call (k + 1)) [some (.loc n), some (.lst (ws.map .str)), some (.loc f), some (.int d), none, none, none] S) _
  unfold b_law_saying
  walk_at "wp"
  refine ⟨rfl, (draw t0 (by omega) (by first | decide | omega) (by first | decide | omega)).mono ?_⟩; rintro _ S1 ⟨r1, rfl, r10, r11, t1, l1, f1⟩
  have hf1 : S1[f]? = some (.lst [.int L]) := f1.get hf (by simp; omega)
  have f1 : Fr [n, f] S S1 := f1.more (by simp)
  walk_at "wp"
  refine w_ifP (fun b => b = false → 2 ≤ L ∧ 2 ≤ d ∧ 3 ≤ r1) ?_ (fun _ => ?_) (fun hb1 => ?_)
  · walk_at "wp"
    refine y_ix (ix_first hf1) ?_
    walk_at "wp"
    refine ite_b (fun _ => ⟨rfl, fun h => by cases h⟩) (fun c1 => ?_)
    walk_at "wp"
    refine ite_b (fun _ => ⟨rfl, fun h => by cases h⟩) (fun c2 => ?_)
    walk_at "wp"
    refine ⟨rfl, fun c3 => ?_⟩
    have := of_decide_eq_false c1
    have := of_decide_eq_false c2
    have := of_decide_eq_false c3
    omega
  · walk_at "wp"
    refine y_lenS ?_
    walk_at "wp"
    refine ⟨rfl, (draw t1 (by omega) (by first | decide | omega) (by first | decide | omega)).mono ?_⟩; rintro _ S2 ⟨r2, rfl, r20, r21, t2, l2, f2⟩
    refine y_ixW r20 r21 fun w hw _ => ?_
    walk_at "wp"
    refine ⟨rfl, (draw t2 (by omega) (by first | decide | omega) (by first | decide | omega)).mono ?_⟩; rintro _ S3 ⟨r3, rfl, r30, r31, t3, l3, f3⟩
    walk_at "wp"
    refine y_min ?_
    refine y_ixL (by split <;> omega) (show _ < (3 : Int) by split <;> omega) fun u hu _ => ?_
    have hf3 : S3[f]? = some (.lst [.int L]) := f3.get (f2.get hf1 (by simp; omega)) (by simp; omega)
    have f4 : Fr [n, f] S S3 := f1.trans ((f2.trans f3).more (by simp))
    have t4 : Tape n (b + cst d) S3 := t3.mono (by omega)
    simp only [List.mem_cons, List.mem_nil_iff, or_false] at hu
    rcases hu with rfl | rfl | rfl
    · exact ⟨.yes, L, rfl, trivial, Nat.le_max_right _ _, hf3, id, by show ((1 : Nat) : Int) + L ≤ 1 + L; omega, t4, f4⟩
    · exact ⟨.no, L, rfl, trivial, Nat.le_max_right _ _, hf3, id, by show ((1 : Nat) : Int) + L ≤ 1 + L; omega, t4, f4⟩
    · exact ⟨.name w, L, rfl, hw, Nat.le_max_right _ _, hf3, id, by show ((1 : Nat) : Int) + L ≤ 1 + L; omega, t4, f4⟩
  · obtain ⟨hL, hd, hr⟩ := hb1 rfl
    obtain ⟨e, rfl⟩ : ∃ e, d = e + 1 := ⟨d - 1, by omega⟩
    have hrec := @hrec e rfl
    have he : ((e + 1 : Nat) : Int) - 1 = (e : Int) := by omega
    have hcs : cst (e + 1) = 90 + 2 * cst e := rfl
    have hce := cst_pos e
    walk_at "wp"
    refine y_ix (ix_first hf1) ?_
    walk_at "wp"
    refine y_intB ?_
    walk_at "wp"
    refine ⟨_, st_first hf1, ?_⟩
    have hn1 : f < S1.length := (List.getElem?_eq_some_iff.mp hf1).1
    have hv1 : r1 = 3 → (L - 1 - if decide ((3 : Int) < r1) = true then 1 else 0) = L - 1 := fun h => by rw [if_neg (by rw [decide_eq_true_eq]; omega)]; omega
    have hv2 : 3 < r1 → (L - 1 - if decide ((3 : Int) < r1) = true then 1 else 0) = L - 2 := fun h => by rw [if_pos (by rw [decide_eq_true_eq]; omega)]; omega
    generalize (L - 1 - if decide ((3 : Int) < r1) = true then 1 else 0) = v at hv1 hv2 ⊢
    have hf2 : (S1.set f (.lst [.int v]))[f]? = some (.lst [.int v]) := List.getElem?_set_self hn1
    have t2 : Tape n (b + 30) (S1.set f (.lst [.int v])) := t1.fr (ms := [f]) (Fr.set (by simp)) (by simp; omega)
    have f2 : Fr [n, f] S (S1.set f (.lst [.int v])) := f1.trans (Fr.set (by simp))
    generalize S1.set f (.lst [.int v]) = S2 at hf2 t2 f2 ⊢
    walk_at "wp"
    refine w_if ?_
    walk_at "wp"
    refine ite_b (fun c1 => ?_) (fun c1 => ?_)
    · have c1 := of_decide_eq_true c1
      have hv := hv1 c1
      walk_at "wp"
      refine ⟨rfl, ?_⟩
      rw [he]
      refine (hrec t2 (by omega) hf2).mono ?_
      rintro _ S3 ⟨x, L', rfl, hx, hxd, hf3, hL3, hp3, t3, f3⟩
      walk_at "wp"
      exact ⟨.neg x, L', rfl, hx, by show x.deep + 1 ≤ _; omega, hf3, fun _ => hL3 (by omega), by show ((x.parts + 1 : Nat) : Int) + L' ≤ _; omega, t3.mono (by omega), f2.trans f3⟩
    · have c1 := of_decide_eq_false c1
      have hv := hv2 (by omega)
      walk_at "wp"
      refine y_ixL (by omega) (show r1 - 4 < (6 : Int) by omega) fun u hu _ => ?_
      obtain ⟨o, rfl⟩ : ∃ o : Op, u = .str o.s := by
        simp only [List.mem_cons, List.mem_nil_iff, or_false] at hu
        rcases hu with rfl | rfl | rfl | rfl | rfl | rfl
        · exact ⟨.and, rfl⟩
        · exact ⟨.or, rfl⟩
        · exact ⟨.gives, rfl⟩
        · exact ⟨.same, rfl⟩
        · exact ⟨.and, rfl⟩
        · exact ⟨.or, rfl⟩
      walk_at "wp"
      refine ⟨rfl, ?_⟩
      rw [he]
      refine (hrec t2 (by omega) hf2).mono ?_
      rintro _ S3 ⟨x, L3, rfl, hx, hxd, hf3, hL3, hp3, t3, f3⟩
      walk_at "wp"
      refine ⟨rfl, ?_⟩
      rw [he]
      refine (hrec t3 (by omega) hf3).mono ?_
      rintro _ S4 ⟨y, L4, rfl, hy, hyd, hf4, hL4, hp4, t4, f4⟩
      walk_at "wp"
      exact ⟨.bin o x y, L4, rfl, ⟨hx, hy⟩, by show max x.deep y.deep + 1 ≤ _; omega, hf4, fun _ => hL4 (hL3 (by omega)), by show ((x.parts + y.parts + 1 : Nat) : Int) + L4 ≤ _; omega, t4.mono (by omega), f2.trans (f3.trans f4)⟩
theorem saying {n f : Nat} {ws : List Str} (hnf : n ≠ f) (hw0 : 1 ≤ ws.length) (hw1 : ws.length ≤ 1000) : ∀ (d k : Nat) {b L : Int} {S : Sto}, Tape n b S → b + cst d ≤ 2 ^ 100 → S[f]? = some (.lst [.int L]) →
    Y (call (d + k + 2) i_law_saying [.loc n, .lst (ws.map .str), .loc f, .int d] S) (SaidP n f ws b L d S)
  | 0, k, b, L, S, t, hb, hf => say_step hnf hw0 hw1 0 (0 + k) t hb hf fun e he => by cases he
  | d + 1, k, b, L, S, t, hb, hf => by
    have := say_step hnf hw0 hw1 (d + 1) (d + k + 1) t hb hf fun e he b L S t hb hf => by
      cases he
      exact saying hnf hw0 hw1 d k t hb hf
    rw [show d + 1 + k + 2 = d + k + 1 + 2 from by omega]
    exact this
instance opDec : DecidableEq DL.Op := fun a b => by cases a <;> cases b <;> first | exact isTrue rfl | exact isFalse (fun h => by cases h)
def sayB : Say → Say → Bool
  | .yes, .yes => true
  | .no, .no => true
  | .name w, .name v => decide (w = v)
  | .neg a, .neg b => sayB a b
  | .bin o a b, .bin p c d => decide (o = p) && (sayB a c && sayB b d)
  | _, _ => false
theorem sayB_iff : ∀ x y : Say, sayB x y = true ↔ x = y := fun x => by
  induction x with
  | yes => intro y; cases y <;> simp [sayB]
  | no => intro y; cases y <;> simp [sayB]
  | name w => intro y; cases y <;> simp [sayB]
  | neg a ih => intro y; cases y <;> simp [sayB, ih]
  | bin o a b iha ihb => intro y; cases y <;> simp [sayB, iha, ihb]
instance sayDec : DecidableEq DL.Say := fun x y => decidable_of_iff (sayB x y = true) (sayB_iff x y)
def sayD : Say → PyData
  | .yes => .tuple [.str "yes"]
  | .no => .tuple [.str "no"]
  | .name w => .tuple [.str "name", .str w]
  | .neg a => .tuple [.str "not", sayD a]
  | .bin o a b => .tuple [.str o.s, sayD a, sayD b]
theorem say_D : ∀ x : Say, toD x.u = some (sayD x)
  | .yes => rfl
  | .no => rfl
  | .name _ => rfl
  | .neg a => by
    show toD (.tup [.str "not", a.u]) = _
    unfold toD toDs toDs toDs
    rw [say_D a]
    rfl
  | .bin o a b => by
    show toD (.tup [.str o.s, a.u, b.u]) = _
    unfold toD toDs toDs toDs toDs
    rw [say_D a, say_D b]
    rfl
theorem eqv_tup (a b : List PyData) : PyData.eqv (.tuple a) (.tuple b) = PyData.eqvAll a b := by unfold PyData.eqv; rfl
theorem eqv_str (a b : Str) : PyData.eqv (.str a) (.str b) = decide (a = b) := by
  unfold PyData.eqv
  by_cases h : a = b <;> simp [h]
theorem eqv_nil : PyData.eqvAll [] [] = true := by unfold PyData.eqvAll; rfl
theorem eqv_nc (x : PyData) (xs : List PyData) : PyData.eqvAll [] (x :: xs) = false := by unfold PyData.eqvAll; rfl
theorem eqv_cn (x : PyData) (xs : List PyData) : PyData.eqvAll (x :: xs) [] = false := by unfold PyData.eqvAll; rfl
theorem op_s {o p : Op} : o.s = p.s ↔ o = p := ⟨fun h => by cases o <;> cases p <;> first | rfl | exact absurd h (by decide), fun h => by rw [h]⟩
theorem op_no {o : Op} : o.s ≠ "not" ∧ o.s ≠ "name" ∧ o.s ≠ "yes" ∧ o.s ≠ "no" := by cases o <;> decide
theorem say_eqv : ∀ x y : Say, PyData.eqv (sayD x) (sayD y) = decide (x = y) := by
  have d1 : ¬ (("yes" : Str) = "no") := by decide
  have d2 : ¬ (("no" : Str) = "yes") := by decide
  have d3 : ¬ (("yes" : Str) = "name") := by decide
  have d4 : ¬ (("yes" : Str) = "not") := by decide
  have d5 : ¬ (("no" : Str) = "name") := by decide
  have d6 : ¬ (("no" : Str) = "not") := by decide
  have d7 : ¬ (("name" : Str) = "not") := by decide
  have d8 : ¬ (("not" : Str) = "name") := by decide
  intro x
  induction x with
  | yes => intro y; cases y <;> simp [sayD, eqv_tup, PySem.W.eqv_all_cons, eqv_str, eqv_nil, eqv_nc, eqv_cn, d1, d2, d3, d4, d5, d6, d7, d8]
  | no => intro y; cases y <;> simp [sayD, eqv_tup, PySem.W.eqv_all_cons, eqv_str, eqv_nil, eqv_nc, eqv_cn, d1, d2, d3, d4, d5, d6, d7, d8]
  | name w => intro y; cases y <;> simp [sayD, eqv_tup, PySem.W.eqv_all_cons, eqv_str, eqv_nil, eqv_nc, eqv_cn, d1, d2, d3, d4, d5, d6, d7, d8]
  | neg a ih => intro y; cases y <;> simp [sayD, eqv_tup, PySem.W.eqv_all_cons, eqv_str, eqv_nil, eqv_nc, eqv_cn, d1, d2, d3, d4, d5, d6, d7, d8, ih]
  | bin o a b iha ihb =>
    intro y
    cases y with
    | bin p c d =>
      simp only [sayD, eqv_tup, PySem.W.eqv_all_cons, eqv_str, eqv_nil, iha, ihb, Say.bin.injEq, Bool.and_true]
      have e : decide (o.s = p.s) = decide (o = p) := decide_eq_decide.mpr op_s
      rw [e]
      by_cases h1 : o = p <;> by_cases h2 : a = c <;> by_cases h3 : b = d <;> simp [h1, h2, h3]
    | _ => simp [sayD, eqv_tup, PySem.W.eqv_all_cons, eqv_str, eqv_nil, eqv_nc, eqv_cn]
def SOk (x : Say) : Prop := x.On (fun w => PyData.strOk w = true ∧ w.length ≤ sizeLine) ∧ x.deep ≤ 60
theorem say_lay {x : Say} (h : SOk x) : (sayD x).canLay0 = true ∧ (sayD x).depth ≤ 60 := by
  obtain ⟨d, e, a, b⟩ := (Say.pl h.1).dat
  rw [say_D] at e
  cases e
  exact ⟨a, Nat.le_trans b h.2⟩
theorem say_shaped {x : Say} (h : SOk x) : SeqAt.shaped (sayD x) = true := by
  obtain ⟨a, b⟩ := say_lay h
  unfold SeqAt.shaped
  rw [a, decide_eq_true (by omega : (sayD x).depth ≤ 64)]
  rfl
section
variable {S : Sto} {Q : U → Sto → Prop}
end
def arity (z : Str) : Option Nat := if ("yes" : Str) = z then some 0 else if ("no" : Str) = z then some 0 else if ("not" : Str) = z then some 1 else if ("and" : Str) = z then some 2 else if ("or" : Str) = z then some 2 else if ("if" : Str) = z then some 2 else if ("same" : Str) = z then some 2 else none
theorem look_many (z : Str) : lookT t_MANY z = (arity z).map (fun m : Nat => U.int (m : Int)) := by
  unfold t_MANY lookT lookT lookT lookT lookT lookT lookT lookT arity
  split; · rfl
  split; · rfl
  split; · rfl
  split; · rfl
  split; · rfl
  split; · rfl
  split <;> rfl
def nameCnt : List U → Int
  | [w] => if wordB w then 1 else 1000
  | _ => 1000
def opCnt (f : U → Int) (z : Str) (us : List U) : Int := match arity z with
  | some m => if us.length = m then 1 + (us.map f).sum else 1000
  | none => 1000
def cntT (f : U → Int) : U → Int
  | .tup (.str z :: us) => if z = "name" then nameCnt us else opCnt f z us
  | _ => 1000
def cnt : Nat → U → Int
  | 0 => fun _ => 1000
  | n + 1 => cntT (cnt n)
theorem cnt_zero (u : U) : cnt 0 u = 1000 := rfl
theorem cnt_bad {n : Nat} {u : U} (h : ∀ z us, u ≠ .tup (.str z :: us)) : cnt n u = 1000 := by
  cases n with
  | zero => exact cnt_zero u
  | succ n =>
    show cntT (cnt n) u = 1000
    cases u with
    | tup us =>
      cases us with
      | nil => rfl
      | cons v us =>
        cases v with
        | str z => exact absurd rfl (h z us)
        | _ => rfl
    | _ => rfl
theorem cnt_name {n : Nat} {us : List U} : cnt (n + 1) (.tup (.str "name" :: us)) = nameCnt us := by
  show (if ("name" : Str) = "name" then nameCnt us else opCnt (cnt n) "name" us) = _
  rw [if_pos rfl]
theorem cnt_op {n : Nat} {z : Str} {us : List U} (h : ¬ z = "name") : cnt (n + 1) (.tup (.str z :: us)) = opCnt (cnt n) z us := if_neg h
theorem op_none {f : U → Int} {z : Str} {us : List U} (h : arity z = none) : opCnt f z us = 1000 := by unfold opCnt; rw [h]
theorem op_some {f : U → Int} {z : Str} {us : List U} {m : Nat} (h : arity z = some m) : opCnt f z us = if us.length = m then 1 + (us.map f).sum else 1000 := by unfold opCnt; rw [h]
theorem name_bad {us : List U} (h : us.length ≠ 1) : nameCnt us = 1000 := by
  cases us with
  | nil => rfl
  | cons u r => cases r with
    | nil => exact absurd rfl h
    | cons v r => rfl
theorem cnt_pos : ∀ (n : Nat) (u : U), 1 ≤ cnt n u := by
  intro n
  induction n with
  | zero => intro u; rw [cnt_zero]; decide
  | succ n ih =>
    have sum : ∀ us : List U, 0 ≤ (us.map (cnt n)).sum := by
      intro us
      induction us with
      | nil => exact Int.le_refl _
      | cons u us ih2 => rw [List.map_cons, List.sum_cons]; have := ih u; omega
    intro u
    by_cases h : ∃ z us, u = .tup (.str z :: us)
    · obtain ⟨z, us, rfl⟩ := h
      by_cases q : z = "name"
      · subst q
        rw [cnt_name]
        unfold nameCnt
        split
        · split <;> decide
        · decide
      · rw [cnt_op q]
        unfold opCnt
        split
        · split
          · have := sum us; omega
          · decide
        · decide
    · rw [cnt_bad fun z us e => h ⟨z, us, e⟩]; decide
theorem sum_pos (n : Nat) (us : List U) : 0 ≤ (us.map (cnt n)).sum := by
  induction us with
  | nil => exact Int.le_refl _
  | cons u us ih => rw [List.map_cons, List.sum_cons]; have := cnt_pos n u; omega
def Rel (i c : Int) : Prop := (i ≤ 400 ∧ i = c) ∨ (400 < i ∧ 400 < c)
theorem rel_401 {i : Int} (h : i = 1000) : Rel 401 i := .inr ⟨by decide, by omega⟩
def PartsP (n : Nat) (u : U) (S : Sto) (r : U) (S' : Sto) : Prop := S' = S ∧ ∃ i, r = .int i ∧ Rel i (cnt n u)
theorem y_ixT0 {u : U} {us : List U} {S : Sto} {Q : U → Sto → Prop} (h : Q u S) : Y (ixU (.tup (u :: us)) (.int 0) S) Q := y_ix (show atI (u :: us) 0 = some u from atI_nat (j := 0) rfl) h
theorem y_ixT1 {u v : U} {us : List U} {S : Sto} {Q : U → Sto → Prop} (h : Q v S) : Y (ixU (.tup (u :: v :: us)) (.int 1) S) Q := y_ix (show atI (u :: v :: us) 1 = some v from atI_nat (j := 1) rfl) h
theorem sl1 (u : U) (us : List U) : cutU (u :: us) (some 1) none = us := cut_suf (u :: us) 1
theorem parts_step {c : Nat} (n k : Nat) {m : Nat} {u : U} {S : Sto} (p : Pl c m u)
    (hrec : ∀ e, n = e + 1 → ∀ {m : Nat} {u : U}, Pl c m u → Y (call (k + 1) i_parts_in [u, .int (26 - e)] S) (PartsP e u S)) :
    Y (call (k + 2) i_parts_in [u, .int (26 - n)] S) (PartsP n u S) := by
  refine y_run ?_
  show WS (b_parts_in (call (k + 1)) [some u, some (.int (26 - n)), none, none, none] S) _
  unfold b_parts_in c_DEEPEST c_MOST_PARTS
  walk_at "wp"
  refine w_ifP (fun b => (b = true → cnt n u = 1000) ∧ (b = false → ∃ z us e, u = .tup (.str z :: us) ∧ n = e + 1)) ?_ (fun h => ?_) (fun h => ?_)
  · walk_at "wp"
    refine ite_b (fun c1 => ?_) (fun c1 => ?_)
    · have c1 := of_decide_eq_true c1
      refine ⟨rfl, fun _ => ?_, fun h => by cases h⟩
      rw [show n = 0 by omega, cnt_zero]
    have c1 := of_decide_eq_false c1
    walk_at "wp"
    refine y_isT p ?_
    walk_at "wp"
    by_cases ht : ∃ us, u = .tup us
    · obtain ⟨us, rfl⟩ := ht
      refine ite_b (fun c2 => by cases c2) (fun c2 => ?_)
      walk_at "wp"
      refine y_lenT ?_
      walk_at "wp"
      cases us with
      | nil => exact ⟨rfl, fun _ => cnt_bad (fun z us e => by cases e), fun h => by cases h⟩
      | cons v us =>
        refine ite_b (fun c3 => absurd (of_decide_eq_true c3) (by rw [List.length_cons]; omega)) (fun c3 => ?_)
        walk_at "wp"
        refine y_ixT0 ?_
        walk_at "wp"
        obtain ⟨_, m, rfl, pus⟩ := p.tup
        refine y_isS (pus v List.mem_cons_self) ?_
        walk_at "wp"
        cases v with
        | str z => exact ⟨rfl, (fun h => by cases h), fun _ => ⟨z, us, n - 1, rfl, by omega⟩⟩
        | _ => exact ⟨rfl, fun _ => cnt_bad (fun z us e => by cases e), fun h => by cases h⟩
    · have e : isTup u = false := by
        cases u with
        | tup us => exact absurd ⟨us, rfl⟩ ht
        | _ => rfl
      rw [e]
      refine ite_b (fun c2 => ?_) (fun c2 => by cases c2)
      exact ⟨rfl, fun _ => cnt_bad fun z us e => ht ⟨_, e⟩, fun h => by cases h⟩
  · walk_at "wp"
    exact ⟨rfl, _, rfl, rel_401 (h.1 rfl)⟩
  obtain ⟨z, us, n, rfl, rfl⟩ := h.2 rfl
  have hrec := @hrec n rfl
  obtain ⟨hl, m, rfl, pus⟩ := p.tup
  have pz := fun v hv => pus v (List.mem_cons_of_mem _ hv)
  walk_at "wp"
  refine w_if ?_
  walk_at "wp"
  refine y_ixT0 ?_
  walk_at "wp"
  refine ite_b (fun c1 => ?_) (fun c1 => ?_)
  · have c1 := of_decide_eq_true c1
    subst c1
    walk_at "wp"
    refine y_if ?_
    walk_at "wp"
    refine y_lenT ?_
    walk_at "wp"
    refine ite_b (fun c2 => ?_) (fun c2 => ?_)
    · have c2 := of_decide_eq_true c2
      obtain ⟨w, rfl⟩ : ∃ w, us = [w] := by
        cases us with
        | nil => simp at c2
        | cons w r => cases r with
          | nil => exact ⟨w, rfl⟩
          | cons x r => simp at c2; omega
      walk_at "wp"
      refine y_ixT1 ?_
      walk_at "wp"
      refine ⟨rfl, (is_word (pz w List.mem_cons_self)).mono ?_⟩
      rintro _ _ ⟨rfl, rfl⟩
      walk_at "wp"
      refine ite_b (fun c3 => ?_) (fun c3 => ?_)
      · walk_at "wp"
        exact ⟨rfl, _, rfl, .inl ⟨by decide, by rw [cnt_name]; show 1 = if wordB w = true then 1 else 1000; rw [if_pos c3]⟩⟩
      · walk_at "wp"
        exact ⟨rfl, _, rfl, rel_401 (by rw [cnt_name]; show (if wordB w = true then 1 else 1000) = 1000; rw [c3]; rfl)⟩
    · have c2 := of_decide_eq_false c2
      walk_at "wp"
      refine ⟨rfl, _, rfl, rel_401 ?_⟩
      rw [cnt_name]
      exact name_bad fun e => c2 (by rw [List.length_cons, e]; rfl)
  have c1 := of_decide_eq_false c1
  walk_at "wp"
  refine y_ixT0 ?_
  refine ⟨z, rfl, ?_⟩
  rw [look_many]
  cases ha : arity z with
  | none =>
    rw [show (Option.map (fun m : Nat => U.int (m : Int)) none).getD .non = .non from rfl]
    walk_at "wp"
    refine w_ifP (fun b => b = true) ?_ (fun h => ?_) (fun h => by cases h)
    · walk_at "wp"
      exact ⟨rfl, rfl⟩
    walk_at "wp"
    exact ⟨rfl, _, rfl, rel_401 (by rw [cnt_op c1, op_none ha])⟩
  | some q =>
  rw [show (Option.map (fun m : Nat => U.int (m : Int)) (some q)).getD .non = .int (q : Int) from rfl]
  walk_at "wp"
  refine w_ifP (fun b => b = !decide (us.length = q)) ?_ (fun h => ?_) (fun h => ?_)
  · walk_at "wp"
    refine ite_b (fun c => by cases c) (fun _ => ?_)
    walk_at "wp"
    refine y_lenT ?_
    walk_at "wp"
    refine ⟨rfl, ?_⟩
    rw [List.length_cons]
    congr 1
    exact decide_eq_decide.mpr (by omega)
  · walk_at "wp"
    refine ⟨rfl, _, rfl, rel_401 ?_⟩
    rw [cnt_op c1, op_some ha, if_neg]
    intro e
    rw [decide_eq_true e] at h
    cases h
  have hq : us.length = q := by
    cases hd : decide (us.length = q) with
    | true => exact of_decide_eq_true hd
    | false => rw [hd] at h; cases h
  have hcnt : cnt (n + 1) (.tup (.str z :: us)) = 1 + (us.map (cnt n)).sum := by rw [cnt_op c1, op_some ha, if_pos hq]
  walk_at "wp"
  refine ⟨_, rfl, ?_⟩
  walk_at "wp"
  refine y_slT ?_
  rw [sl1]
  refine ⟨us, rfl, ?_⟩
  refine w_loop (fun rest d S' => S' = S ∧ ∃ (f : Int) (pre : List U) (x4 : Option U), d = [some (.tup (.str z :: us)), some (.int (26 - ((n + 1 : Nat) : Int))), some (.int (q : Int)), some (.int f), x4] ∧ us = pre ++ rest ∧ f = 1 + (pre.map (cnt n)).sum ∧ (f ≤ 400)) ?_ ?_ _ _ _ ⟨rfl, 1, [], _, rfl, rfl, by simp, by decide⟩
  · rintro v rest _ _ ⟨rfl, f, pre, x4, rfl, hus, hf, hf4⟩
    refine ⟨_, rfl, ?_⟩
    walk_at "wp"
    refine ⟨rfl, ?_⟩
    rw [show (26 - ((n + 1 : Nat) : Int)) + 1 = 26 - (n : Int) by omega]
    refine (hrec (pz v (by rw [hus]; simp))).mono ?_
    rintro _ _ ⟨rfl, i, rfl, hr⟩
    walk_at "wp"
    have hsum : (us.map (cnt n)).sum = (pre.map (cnt n)).sum + (cnt n v + (rest.map (cnt n)).sum) := by
      rw [hus, List.map_append, List.sum_append, List.map_cons, List.sum_cons]
    have h1 := sum_pos n rest
    have h2 := cnt_pos n v
    refine w_if ?_
    walk_at "wp"
    refine ite_b (fun c2 => ?_) (fun c2 => ?_)
    · have c2 := of_decide_eq_true c2
      walk_at "wp"
      refine ⟨rfl, _, rfl, .inr ⟨c2, ?_⟩⟩
      rw [hcnt, hsum]
      have h3 := sum_pos n pre
      rcases hr with ⟨r1, r2⟩ | ⟨r1, r2⟩ <;> omega
    · have c2 := of_decide_eq_false c2
      walk_at "wp"
      have h3 := sum_pos n pre
      refine ⟨rfl, f + i, pre ++ [v], _, rfl, by rw [hus, List.append_assoc]; rfl, ?_, by omega⟩
      rw [List.map_append, List.sum_append, List.map_singleton, List.sum_singleton]
      rcases hr with ⟨r1, r2⟩ | ⟨r1, r2⟩ <;> omega
  · rintro _ _ ⟨rfl, f, pre, x4, rfl, hus, hf, hf4⟩
    walk_at "wp"
    refine ⟨rfl, f, rfl, .inl ⟨hf4, ?_⟩⟩
    rw [hcnt, hf, hus, List.append_nil]
theorem parts_in {c : Nat} : ∀ (n k : Nat) {m : Nat} {u : U} {S : Sto}, Pl c m u → Y (call (n + k + 2) i_parts_in [u, .int (26 - n)] S) (PartsP n u S)
  | 0, k, m, u, S, p => parts_step 0 (0 + k) p fun e he => by cases he
  | n + 1, k, m, u, S, p => by
    have := parts_step (n + 1) (n + k + 1) (S := S) p fun e he m u p => by
      cases he
      exact parts_in n k p
    rw [show n + 1 + k + 2 = n + k + 1 + 2 from by omega]
    exact this
theorem is_saying {c : Nat} {k m : Nat} {u : U} {S : Sto} (p : Pl c m u) : Y (call (k + 28) i_is_saying [u] S) fun r S' => S' = S ∧ r = .bl (decide (cnt 25 u ≤ 400)) := by
  refine y_run ?_
  show WS (b_is_saying (call (k + 27)) [some u] S) _
  unfold b_is_saying c_MOST_PARTS
  walk_at "wp"
  refine ⟨rfl, ?_⟩
  have h := parts_in (c := c) 25 k (S := S) p
  rw [show 25 + k + 2 = k + 27 by omega] at h
  refine Y.mono (show Y (call (k + 27) i_parts_in [u, .int 1] S) _ from h) ?_
  rintro _ _ ⟨rfl, i, rfl, hr⟩
  walk_at "wp"
  refine ⟨rfl, ?_⟩
  congr 1
  refine decide_eq_decide.mpr ?_
  rcases hr with ⟨r1, r2⟩ | ⟨r1, r2⟩ <;> omega
theorem low_let : ∀ c, c < 123 → 97 ≤ c → inStr ⟨#[c]⟩ "abcdefghijklmnopqrstuvwxyz" = true := by decide +kernel
theorem low_letters {v : Str} (hv : Low v) : lettersB v = true := by
  unfold lettersB
  rw [List.all_eq_true]
  exact fun c hc => low_let c (by have := hv c hc; omega) (hv c hc).1
def WB (w : Str) : Prop := wordB (.str w) = true
theorem wb_ok {w : Str} (h : WB w) : 1 ≤ w.length ∧ w.length ≤ 8 ∧ lettersB w = true ∧ w ∉ w7 := by
  unfold WB at h
  rw [wordB_str] at h
  simp only [Bool.and_eq_true, decide_eq_true_eq, Bool.not_eq_true', decide_eq_false_iff_not] at h
  exact ⟨h.1.1.1, h.1.1.2, h.1.2, h.2⟩
theorem let_ok : ∀ c, inStr ⟨#[c]⟩ "abcdefghijklmnopqrstuvwxyz" = true → c < 0x110000 := fun c h => by
  refine Nat.lt_of_not_le fun hc => ?_
  have e : (TL.tl "abcdefghijklmnopqrstuvwxyz").all (fun d => decide (d < 0x110000)) = true := by decide +kernel
  rw [(inStr_one (a := ⟨#[c]⟩) (b := "abcdefghijklmnopqrstuvwxyz") rfl).2] at h
  have e2 := of_decide_eq_true h
  have := of_decide_eq_true (List.all_eq_true.mp e c e2)
  omega
theorem strOk_iff {z : Str} : PyData.strOk z = true ↔ ∀ c ∈ TL.tl z, c < 0x110000 := by
  unfold PyData.strOk
  rw [← Array.all_toList, List.all_eq_true]
  exact ⟨fun h c hc => of_decide_eq_true (h c hc), fun h c hc => decide_eq_true (h c hc)⟩
theorem wb_str {w : Str} (h : WB w) : PyData.strOk w = true ∧ w.length ≤ sizeLine := by
  obtain ⟨h1, h2, h3, _⟩ := wb_ok h
  refine ⟨strOk_iff.mpr fun c hc => let_ok c (List.all_eq_true.mp h3 c hc), by rw [sizeL]; omega⟩
theorem arity_op (o : Op) : arity o.s = some 2 := by cases o <;> rfl
theorem cnt_of : ∀ (x : Say) (n : Nat), x.deep ≤ n → x.On WB → cnt n x.u = (x.parts : Int)
  | .yes, n + 1, _, _ => by rw [show Say.u .yes = .tup (.str "yes" :: []) from rfl, cnt_op (by decide), op_some (m := 0) rfl, if_pos (show ([] : List U).length = 0 from rfl)]; rfl
  | .no, n + 1, _, _ => by rw [show Say.u .no = .tup (.str "no" :: []) from rfl, cnt_op (by decide), op_some (m := 0) rfl, if_pos (show ([] : List U).length = 0 from rfl)]; rfl
  | .name w, n + 1, _, h => by
    rw [show Say.u (.name w) = .tup (.str "name" :: [.str w]) from rfl, cnt_name]
    show (if wordB (.str w) = true then (1 : Int) else 1000) = 1
    rw [if_pos (show wordB (.str w) = true from h)]
  | .neg a, n + 1, hd, h => by
    rw [show Say.u (.neg a) = .tup (.str "not" :: [a.u]) from rfl, cnt_op (by decide), op_some (m := 1) rfl, if_pos (show [a.u].length = 1 from rfl)]
    have hd : a.deep + 1 ≤ n + 1 := hd
    have := cnt_of a n (by omega) h
    show 1 + (cnt n a.u + 0) = ((a.parts + 1 : Nat) : Int)
    omega
  | .bin o a b, n + 1, hd, h => by
    rw [show Say.u (.bin o a b) = .tup (.str o.s :: [a.u, b.u]) from rfl, cnt_op op_no.2.1, op_some (arity_op o), if_pos (show [a.u, b.u].length = 2 from rfl)]
    have hd : max a.deep b.deep + 1 ≤ n + 1 := hd
    have h1 := cnt_of a n (by omega) h.1
    have h2 := cnt_of b n (by omega) h.2
    show 1 + (cnt n a.u + (cnt n b.u + 0)) = ((a.parts + b.parts + 1 : Nat) : Int)
    omega
  | x, 0, hd, _ => absurd hd (by have := x.deep_pos; omega)
theorem wl_wb {w : Str} (h : WordL w) (h7 : w ∉ w7) : WB w := by
  show wordB (.str w) = true
  rw [wordB_str, low_letters h.1, decide_eq_true h.2.1, decide_eq_true h.2.2, decide_eq_false h7]
  rfl
theorem methX {c m : Str} {n : Nat} {g : List U → Sto → R U} {fo : FE} {fa : FA} {d : En} {S : Sto} {Q : U → Sto → Prop} {E : Exc → Sto → Prop} (h : Y (fo d S) fun u S1 => isIns c m u S1 = true ∧ Y (fa d S1) fun us S2 => (us.length + 1 == n) = true ∧ Pst (g (u :: us) S2) Q E) : Pst (fMeth c m n g fo fa d S) Q E := by
  obtain ⟨u, S1, e, h1, h2⟩ := h.ok
  obtain ⟨us, S2, e2, h3, h4⟩ := h2.ok
  show Pst ((fo d S).bind fun u S1 => DL.guard (isIns c m u S1) ((fa d S1).bind fun us S2 => DL.guard (us.length + 1 == n) (g (u :: us) S2))) Q E
  rw [e]
  show Pst (DL.guard (isIns c m u S1) ((fa d S1).bind fun us S2 => DL.guard (us.length + 1 == n) (g (u :: us) S2))) Q E
  rw [h1]
  show Pst ((fa d S1).bind fun us S2 => DL.guard (us.length + 1 == n) (g (u :: us) S2)) Q E
  rw [e2]
  show Pst (DL.guard (us.length + 1 == n) (g (u :: us) S2)) Q E
  rw [h3]
  exact h4
theorem w_putFQ {c f : Str} {fe : FE} {d : En} {S : Sto} {D : EU} {n : Nat} {fs : List (Str × U)} {i : Nat} (hi : d[i]? = some (some (.loc n))) (hl : fs.length < 1000) (h : Y (fe d S) fun v S1 => S1[n]? = some (.ins c fs) ∧ ∀ S2, S2[n]? = some (.ins c (setF f v fs)) → S2.length = S1.length → Fr [n] S1 S2 → D.nx d S2) : WS (fPutF c f (fVar i) fe d S) D :=
  w_putF (h.mono fun v S1 ⟨h1, h2⟩ => y_var hi ⟨n, fs, rfl, h1, hl, h2 _ (List.getElem?_set_self (List.getElem?_eq_some_iff.mp h1).1) (by simp) (Fr.set (by simp))⟩)
abbrev Dk := List (Str × Str × U)
def dkv (p : Str × Str × U) : U := .tup [.str p.2.1, p.2.2]
def dkO (D : Dk) : Ob := .dic (dz (D.map (·.1))) (D.map dkv)
def deskF (t a : U) (m : Int) (kn : U) : List (Str × U) := [("there", t), ("ahead", a), ("many", .int m), ("known", kn)]
theorem desk_there (t a v : U) (m : Int) (kn : U) : setF "there" v (deskF t a m kn) = deskF v a m kn := rfl
theorem desk_ahead (t a v : U) (m : Int) (kn : U) : setF "ahead" v (deskF t a m kn) = deskF t v m kn := rfl
theorem desk_many (t a : U) (m m2 : Int) (kn : U) : setF "many" (.int m2) (deskF t a m kn) = deskF t a m2 kn := rfl
theorem desk_known (t a v : U) (m : Int) (kn : U) : setF "known" v (deskF t a m kn) = deskF t a m v := rfl
def DksAt (ls : List Nat) (As : List Dk) (S : Sto) : Prop := ls.length = As.length ∧ ∀ (i l : Nat) (D : Dk), ls[i]? = some l → As[i]? = some D → S[l]? = some (dkO D)
def DeskAt (n a : Nat) (D : Dk) (As : List Dk) (m : Int) (S : Sto) : Prop := ∃ (t kn : Nat) (ls : List Nat), S[n]? = some (.ins "Desk" (deskF (.loc t) (.loc a) m (.loc kn))) ∧ S[t]? = some (dkO D) ∧ S[a]? = some (.lst (ls.map .loc)) ∧ DksAt ls As S ∧ S[kn]? = some (.dic [] [])
theorem DksAt.fr {ls ms : List Nat} {As : List Dk} {S S' : Sto} (h : DksAt ls As S) (a : Fr ms S S') (q : ∀ l ∈ ls, l ∉ ms) : DksAt ls As S' := ⟨h.1, fun i l D h1 h2 => a.get (h.2 i l D h1 h2) (q l (List.mem_of_getElem? h1))⟩
theorem DksAt.snoc {ls : List Nat} {As : List Dk} {S : Sto} {l : Nat} {D : Dk} (h : DksAt ls As S) (hl : S[l]? = some (dkO D)) : DksAt (ls ++ [l]) (As ++ [D]) S := by
  refine ⟨by rw [List.length_append, List.length_append, h.1]; rfl, fun i l' D' h1 h2 => ?_⟩
  by_cases q : i < ls.length
  · rw [List.getElem?_append_left q] at h1
    rw [List.getElem?_append_left (by rw [← h.1]; exact q)] at h2
    exact h.2 i l' D' h1 h2
  · have hi := (List.getElem?_eq_some_iff.mp h1).1
    rw [List.length_append] at hi
    have e : i = ls.length := by simp only [List.length_cons, List.length_nil] at hi; omega
    subst e
    rw [List.getElem?_append_right (Nat.le_refl _), Nat.sub_self] at h1
    rw [h.1, List.getElem?_append_right (Nat.le_refl _), Nat.sub_self] at h2
    cases h1
    cases h2
    exact hl
theorem DksAt.off {ls : List Nat} {As : List Dk} {S : Sto} (h : DksAt ls As S) {l : Nat} (hl : l ∈ ls) : ∃ D, S[l]? = some (dkO D) := by
  obtain ⟨i, hi⟩ := List.mem_iff_getElem?.mp hl
  have hil := (List.getElem?_eq_some_iff.mp hi).1
  exact ⟨As[i]'(by rw [← h.1]; exact hil), h.2 i l _ hi (List.getElem?_eq_getElem _)⟩
theorem DeskAt.fr {n a : Nat} {D : Dk} {As : List Dk} {m : Int} {S S' : Sto} (h : DeskAt n a D As m S) (f : Fr [] S S') : DeskAt n a D As m S' := by
  obtain ⟨t, kn, ls, hn, ht, ha, hls, hkn⟩ := h
  exact ⟨t, kn, ls, f.get hn (by simp), f.get ht (by simp), f.get ha (by simp), hls.fr f (fun l hl => by simp), f.get hkn (by simp)⟩
set_option maxHeartbeats 1000000 in
theorem desk_note {k n a u : Nat} {D E : Dk} {As : List Dk} {m : Int} {S : Sto} (h : DeskAt n a D As m S) (hu : S[u]? = some (dkO E)) (hl : As.length ≤ 100000) :
    Y (call (k + 1) i_Desk_note [.loc n, .loc u] S) fun r S' => DeskAt n a E (As ++ [D]) (m + 1) S' ∧ Fr [n, a] S S' := by
  obtain ⟨t, kn, ls, hn, ht, ha, hls, hkn⟩ := h
  have na : a ≠ n := fun e => by rw [e, hn] at ha; cases ha
  have off : ∀ (l : Nat) (ks : List Key) (us : List U), S[l]? = some (.dic ks us) → l ≠ n ∧ l ≠ a := fun l ks us q => ⟨fun e => (by rw [e, hn] at q; cases q), fun e => (by rw [e, ha] at q; cases q)⟩
  refine y_run ?_
  show WS (b_Desk_note (call k) [some (.loc n), some (.loc u)] S) _
  unfold b_Desk_note
  refine w_seq (w_expr (y_M (y_get ?_)))
  walk_at "wp"
  refine ⟨n, _, _, rfl, hn, rfl, ?_⟩
  refine ⟨ty_list ha, ?_⟩
  refine y_cons (y_get ?_)
  walk_at "wp"
  refine ⟨n, _, _, rfl, hn, rfl, ?_⟩
  walk_at "wp"
  refine y_appG ha (by rw [List.length_map, sizeL, hls.1]; omega) fun S1 h1 l1 f1 => ?_
  have hn1 := f1.get hn (by simpa using Ne.symm na)
  have F1 : Fr [n, a] S S1 := f1.more (by simp)
  refine w_seq (w_putFQ (fs := deskF (.loc t) (.loc a) m (.loc kn)) rfl (by show 4 < 1000; decide) ?_)
  walk_at "wp"
  refine ⟨hn1, fun S2 h2 l2 f2 => ?_⟩
  rw [desk_there] at h2
  have F2 := F1.trans (f2.more (by simp))
  refine w_seq (w_putFQ (fs := deskF (.loc u) (.loc a) m (.loc kn)) rfl (by show 4 < 1000; decide) ?_)
  refine y_f2 (y_get ?_)
  walk_at "wp"
  refine ⟨n, _, _, rfl, h2, rfl, ?_⟩
  walk_at "wp"
  refine ⟨h2, fun S3 h3 l3 f3 => ?_⟩
  rw [desk_many] at h3
  have F3 := F2.trans (f3.more (by simp))
  refine w_putFQ (fs := deskF (.loc u) (.loc a) (m + 1) (.loc kn)) rfl (by show 4 < 1000; decide) ?_
  refine y_dlocG ?_
  refine Y.of (show dNew _ S3 = .ok ([], []) S3 from rfl) ?_
  intro kn2 S4 ek h4 l4 f4
  have h4 : S4[kn2]? = some (.dic [] []) := h4
  refine ⟨f4.get h3 (by simp), fun S5 h5 l5 f5 => ?_⟩
  rw [desk_known] at h5
  have F4 : Fr [n, a] S S4 := F3.trans (f4.more (by simp))
  have F5 : Fr [n, a] S S5 := F4.trans (f5.more (by simp))
  have keep : ∀ (l : Nat) (ks : List Key) (us : List U), S[l]? = some (.dic ks us) → S5[l]? = some (.dic ks us) := fun l ks us q => F5.get q (by have := off l ks us q; simp [this.1, this.2])
  have ha5 : S5[a]? = some (.lst ((ls ++ [t]).map .loc)) := by
    rw [List.map_append]
    exact ((f2.trans (f3.trans ((f4.more (by simp)).trans f5)))).get h1 (by simpa using na)
  have hkn5 : S5[kn2]? = some (.dic [] []) := f5.get h4 (by
    have := (List.getElem?_eq_some_iff.mp h3).1
    simp
    omega)
  refine ⟨⟨u, kn2, ls ++ [t], h5, keep u _ _ hu, ha5, (hls.fr F5 fun l hl => ?_).snoc (keep t _ _ ht), hkn5⟩, F5⟩
  obtain ⟨D', q⟩ := hls.off hl
  have := off l _ _ q
  simp [this.1, this.2]
def dkHas (D : Dk) (l : Str) : Bool := D.any fun p => decide (p.1 = l)
def dkAt (D : Dk) (l : Str) : Option (Str × Str × U) := D.find? fun p => decide (p.1 = l)
theorem val_dk (l : Str) : ∀ D : Dk, valU (dz (D.map (·.1))) (D.map dkv) (.inr l) = (dkAt D l).map dkv
  | [] => rfl
  | p :: D => by
    show (if (Sum.inr p.1 : Key) = .inr l then some (dkv p) else valU (dz (D.map (·.1))) (D.map dkv) (.inr l)) = _
    unfold dkAt
    rw [List.find?_cons]
    by_cases e : p.1 = l
    · rw [if_pos (by rw [e]), decide_eq_true e]
      rfl
    · rw [if_neg (fun z => e (Sum.inr.inj z)), decide_eq_false e]
      exact val_dk l D
theorem dkHas_some (l : Str) : ∀ D : Dk, (dkAt D l).isSome = dkHas D l
  | [] => rfl
  | p :: D => by
    unfold dkAt dkHas
    rw [List.find?_cons, List.any_cons]
    by_cases e : p.1 = l
    · rw [decide_eq_true e]; rfl
    · rw [decide_eq_false e]
      exact dkHas_some l D
section
variable {S : Sto} {Q : U → Sto → Prop} {t : Nat} {D : Dk} {l : Str}
theorem inB_dk (h : S[t]? = some (dkO D)) : inB (.str l) (.loc t) S = some (dkHas D l) := by
  have e : dictOf (.loc t) S = some (dz (D.map (·.1)), D.map dkv) := dict_loc h
  unfold inB
  dsimp only
  rw [e]
  show some (valU (dz (D.map (·.1))) (D.map dkv) (.inr l)).isSome = _
  rw [val_dk, Option.isSome_map, dkHas_some]
theorem y_inDk (h : S[t]? = some (dkO D)) (q : Q (.bl (dkHas D l)) S) : Y (inU (.str l) (.loc t) S) Q := by
  unfold inU
  rw [inB_dk h]
  exact ⟨q⟩
theorem y_ninDk (h : S[t]? = some (dkO D)) (q : Q (.bl (!dkHas D l)) S) : Y (ninU (.str l) (.loc t) S) Q := by
  unfold ninU
  rw [inB_dk h]
  exact ⟨q⟩
theorem y_ixDk {p : Str × Str × U} (h : S[t]? = some (dkO D)) (e : dkAt D l = some p) (q : Q (dkv p) S) : Y (ixU (.loc t) (.str l) S) Q := by
  refine y_ix (u := dkv p) ?_ q
  exact ix_of h (by rw [val_dk, e]; rfl)
end
def noLab (l : Str) : Exc := ⟨"NoLabel", "label", .str l⟩
theorem desk_need {k n a : Nat} {D : Dk} {As : List Dk} {m : Int} {l : Str} {S : Sto} (h : DeskAt n a D As m S) :
    Pst (call (k + 1) i_Desk_need [.loc n, .str l] S) (fun r S' => dkHas D l = true ∧ S' = S) (fun x S' => dkHas D l = false ∧ x = noLab l ∧ S' = S) := by
  obtain ⟨t, kn, ls, hn, ht, ha, hls, hkn⟩ := h
  refine y_runX ?_
  show WS (b_Desk_need (call k) [some (.loc n), some (.str l)] S) _
  unfold b_Desk_need
  refine w_if ?_
  walk_at "wp"
  refine y_get ?_
  walk_at "wp"
  refine ⟨n, _, _, rfl, hn, rfl, ?_⟩
  refine y_ninDk ht ?_
  walk_at "wp"
  cases e : dkHas D l with
  | true =>
    refine ite_b (fun z => by cases z) (fun _ => ?_)
    exact w_nop ⟨rfl, rfl⟩
  | false =>
    refine ite_b (fun _ => ?_) (fun z => by cases z)
    refine w_raise ?_
    walk_at "wp"
    exact ⟨_, rfl, rfl, rfl, rfl⟩
def dkPut (D : Dk) (p : Str × Str × U) : Dk := if dkHas D p.1 = true then D.map fun q => if q.1 = p.1 then p else q else D ++ [p]
theorem repl_dk (p : Str × Str × U) : ∀ D : Dk, replU (dz (D.map (·.1))) (D.map dkv) (.inr p.1) (dkv p) = (D.map fun q => if q.1 = p.1 then p else q).map dkv
  | [] => rfl
  | q :: D => by
    show (if (Sum.inr q.1 : Key) = .inr p.1 then dkv p else dkv q) :: replU (dz (D.map (·.1))) (D.map dkv) (.inr p.1) (dkv p) = _
    rw [repl_dk p D, List.map_cons, List.map_cons]
    by_cases e : q.1 = p.1
    · rw [if_pos (by rw [e]), if_pos e]
    · rw [if_neg (fun z => e (Sum.inr.inj z)), if_neg e]
theorem keys_dk (p : Str × Str × U) (D : Dk) : (D.map fun q => if q.1 = p.1 then p else q).map (·.1) = D.map (·.1) := by
  rw [List.map_map]
  refine List.map_congr_left fun q _ => ?_
  show (if q.1 = p.1 then p else q).1 = q.1
  split
  · rename_i e; exact e.symm
  · rfl
theorem hasK_dk (l : Str) : ∀ D : Dk, hasK (dz (D.map (·.1))) (.inr l) = dkHas D l
  | [] => rfl
  | q :: D => by
    show (decide ((Sum.inr q.1 : Key) = .inr l) || hasK (dz (D.map (·.1))) (.inr l)) = (decide (q.1 = l) || dkHas D l)
    rw [hasK_dk l D]
    congr 1
    by_cases e : q.1 = l
    · rw [decide_eq_true e, decide_eq_true (by rw [e])]
    · rw [decide_eq_false e, decide_eq_false (fun z => e (Sum.inr.inj z))]
theorem put_dk (D : Dk) (p : Str × Str × U) : putU (dz (D.map (·.1))) (D.map dkv) (.inr p.1) (dkv p) = (dz ((dkPut D p).map (·.1)), (dkPut D p).map dkv) := by
  unfold putU dkPut
  rw [hasK_dk]
  cases e : dkHas D p.1 with
  | true =>
    rw [if_pos rfl, if_pos rfl, repl_dk, keys_dk]
  | false =>
    rw [if_neg (by decide), if_neg (by decide), List.map_append, List.map_append]
    unfold dz
    rw [List.map_append]
    rfl
theorem st_dk {u : Nat} {D : Dk} {p : Str × Str × U} {S : Sto} (h : S[u]? = some (dkO D)) (hl : D.length < sizeLine) : stU (.loc u) (.str p.1) (dkv p) S = some (S.set u (dkO (dkPut D p))) := by
  have h : S[u]? = some (.dic (dz (D.map (·.1))) (D.map dkv)) := h
  unfold stU
  simp only [h, keyU]
  rw [if_pos (by unfold dz; rw [List.length_map, List.length_map]; exact hl), put_dk]
  rfl
theorem dictC_dk {t : Nat} {D : Dk} {S : Sto} (h : S[t]? = some (dkO D)) : dictC [.loc t] S = .ok (dz (D.map (·.1)), D.map dkv) S := by
  have e : dictOf (.loc t) S = some (dz (D.map (·.1)), D.map dkv) := dict_loc h
  unfold dictC
  dsimp only
  rw [e]
set_option maxHeartbeats 1000000 in
theorem desk_put {k n a : Nat} {D : Dk} {As : List Dk} {m : Int} {l sd : Str} {sy : U} {S : Sto} (h : DeskAt n a D As m S) (hd : D.length ≤ 100000) (hl : As.length ≤ 100000) :
    Pst (call (k + 2) i_Desk_put [.loc n, .str l, .str sd, sy] S) (fun r S' => dkHas D l = false ∧ DeskAt n a (D ++ [(l, sd, sy)]) (As ++ [D]) (m + 1) S' ∧ Fr [n, a] S S') (fun x S' => dkHas D l = true ∧ x = noLab l ∧ S' = S) := by
  have h0 := h
  obtain ⟨t, kn, ls, hn, ht, ha, hls, hkn⟩ := h
  refine y_runX ?_
  show WS (b_Desk_put (call (k + 1)) [some (.loc n), some (.str l), some (.str sd), some sy, none] S) _
  unfold b_Desk_put
  refine w_seq (w_if ?_)
  walk_at "wp"
  refine y_get ?_
  walk_at "wp"
  refine ⟨n, _, _, rfl, hn, rfl, ?_⟩
  refine y_inDk ht ?_
  walk_at "wp"
  cases e : dkHas D l with
  | true =>
    refine ite_b (fun _ => ?_) (fun z => by cases z)
    refine w_raise ?_
    walk_at "wp"
    exact ⟨_, rfl, rfl, rfl, rfl⟩
  | false =>
    refine ite_b (fun z => by cases z) (fun _ => ?_)
    refine w_nop (w_seq (w_set (y_dlocG ?_)))
    refine y_A (y_cons (y_get ?_))
    walk_at "wp"
    refine ⟨n, _, _, rfl, hn, rfl, ?_⟩
    walk_at "wp"
    refine Y.of (show dictC [.loc t] S = .ok (dz (D.map (·.1)), D.map dkv) S from dictC_dk ht) ?_
    intro u S1 eu hu1 l1 f1
    have hu1 : S1[u]? = some (dkO D) := hu1
    refine w_seq (w_store ?_)
    walk_at "wp"
    refine ⟨_, st_dk (p := (l, sd, sy)) hu1 (by rw [sizeL]; omega), ?_⟩
    have ep : dkPut D (l, sd, sy) = D ++ [(l, sd, sy)] := if_neg (by rw [e]; decide)
    rw [ep]
    have hu2 : (S1.set u (dkO (D ++ [(l, sd, sy)])))[u]? = _ := List.getElem?_set_self (List.getElem?_eq_some_iff.mp hu1).1
    have f2 : Fr [u] S1 (S1.set u (dkO (D ++ [(l, sd, sy)]))) := Fr.set (by simp)
    generalize S1.set u (dkO (D ++ [(l, sd, sy)])) = S2 at hu2 f2 ⊢
    have F2 : Fr [] S S2 := f1.thenNew f2 (by omega)
    refine w_expr (y_meth ?_)
    walk_at "wp"
    refine ⟨ins_ok (F2.get hn (by simp)) rfl, ?_⟩
    walk_at "wp"
    refine ⟨rfl, (desk_note (k := k) (h0.fr F2) hu2 hl).mono ?_⟩
    rintro _ S3 ⟨h3, k3⟩
    exact ⟨rfl, h3, (F2.more (by simp)).trans k3⟩
theorem w_exprM {c m : Str} {n : Nat} {g : List U → Sto → R U} {fo : FE} {fa : FA} {d : En} {S : Sto} {D : EU} (h : Y (fo d S) fun u S1 => isIns c m u S1 = true ∧ Y (fa d S1) fun us S2 => (us.length + 1 == n) = true ∧ Pst (g (u :: us) S2) (fun _ S3 => D.nx d S3) (fun x S3 => D.ex x d S3)) : WS (fExpr (fMeth c m n g fo fa) d S) D := ws_toSx ((methX h).mono (fun _ _ q => ⟨q⟩) fun _ _ q => q)
theorem y_tixg {ys : List Str} {f : FE} {d : En} {S : Sto} {Q : U → Sto → Prop} (h : Y (f d S) fun u S1 => ∃ z, u = .str z ∧ ∃ j : Nat, fstIx z ys = some j ∧ Q (.int (j : Nat)) S1) : Y (fTixg ys f d S) Q := y_bind (h.mono fun u S1 ⟨z, e, j, e2, h1⟩ => by
  subst e
  show Y (match fstIx z ys with
    | some j => R.ok (.int (j : Nat)) S1
    | none => .bad) Q
  rw [e2]
  exact ⟨h1⟩)
theorem dkAt_of {D : Dk} {l : Str} (h : dkHas D l = true) : ∃ p, dkAt D l = some p ∧ p.1 = l := by
  have e := dkHas_some l D
  rw [h] at e
  obtain ⟨p, hp⟩ := Option.isSome_iff_exists.mp e
  have hp' : D.find? (fun p => decide (p.1 = l)) = some p := hp
  have hq := List.find?_some hp'
  exact ⟨p, hp, of_decide_eq_true hq⟩
def sideN (s : Str) : Str := if s = "other" then "one" else "other"
def sidesOk (D : Dk) : Prop := ∀ p ∈ D, p.2.1 = "one" ∨ p.2.1 = "other"
set_option maxHeartbeats 1000000 in
theorem desk_move {k n a : Nat} {D : Dk} {As : List Dk} {m : Int} {l : Str} {S : Sto} (h : DeskAt n a D As m S) (hs : sidesOk D) (hd : D.length ≤ 100000) (hl : As.length ≤ 100000) :
    Pst (call (k + 2) i_Desk_move [.loc n, .str l] S) (fun r S' => ∃ p, dkAt D l = some p ∧ DeskAt n a (dkPut D (l, sideN p.2.1, p.2.2)) (As ++ [D]) (m + 1) S' ∧ Fr [n, a] S S') (fun x S' => dkHas D l = false ∧ x = noLab l ∧ S' = S) := by
  have h0 := h
  obtain ⟨t, kn, ls, hn, ht, ha, hls, hkn⟩ := h
  refine y_runX ?_
  show WS (b_Desk_move (call (k + 1)) [some (.loc n), some (.str l), none, none, none] S) _
  unfold b_Desk_move
  refine w_seq (w_exprM ?_)
  walk_at "wp"
  refine ⟨ins_ok hn rfl, ?_⟩
  walk_at "wp"
  refine ⟨rfl, (desk_need (k := k) (l := l) h0).mono ?_ ?_⟩
  case refine_2 =>
    rintro x S1 ⟨h1, h2, h3⟩
    exact ⟨h1, h2, h3⟩
  rintro _ S1 ⟨hh, hS⟩
  subst hS
  obtain ⟨p, hp, hpl⟩ := dkAt_of hh
  have hpm : p ∈ D := List.mem_of_find?_eq_some (show D.find? (fun p => decide (p.1 = l)) = some p from hp)
  refine w_seq (w_asg (y_f2 (y_get ?_)))
  walk_at "wp"
  refine ⟨n, _, _, rfl, hn, rfl, ?_⟩
  walk_at "wp"
  refine y_ixDk ht hp ?_
  refine ⟨_, rfl, ?_⟩
  refine w_seq (w_set (y_dlocG ?_))
  refine y_A (y_cons (y_get ?_))
  walk_at "wp"
  refine ⟨n, _, _, rfl, hn, rfl, ?_⟩
  walk_at "wp"
  refine Y.of (dictC_dk ht) ?_
  intro u S2 eu hu2 l2 f2
  have hu2 : S2[u]? = some (dkO D) := hu2
  have ht1 : fstIx p.2.1 ["one", "other"] = some (if p.2.1 = "one" then 0 else 1) := by
    rcases hs p hpm with e | e <;> rw [e] <;> rfl
  have ht2 : atI [U.str "one", .str "other"] (1 - (((if p.2.1 = "one" then 0 else 1 : Nat)) : Int)) = some (.str (sideN p.2.1)) := by
    rcases hs p hpm with e | e <;> rw [e] <;> rfl
  refine w_seq (w_store ?_)
  unfold c_SIDES
  walk_at "wp"
  refine y_tixg ?_
  walk_at "wp"
  refine ⟨_, rfl, _, ht1, ?_⟩
  walk_at "wp"
  refine y_ix (u := .str (sideN p.2.1)) ht2 ?_
  walk_at "wp"
  refine ⟨_, st_dk (p := (l, sideN p.2.1, p.2.2)) hu2 (by rw [sizeL]; omega), ?_⟩
  have hu3 : (S2.set u (dkO (dkPut D (l, sideN p.2.1, p.2.2))))[u]? = _ := List.getElem?_set_self (List.getElem?_eq_some_iff.mp hu2).1
  have f3 : Fr [u] S2 (S2.set u (dkO (dkPut D (l, sideN p.2.1, p.2.2)))) := Fr.set (by simp)
  generalize S2.set u (dkO (dkPut D (l, sideN p.2.1, p.2.2))) = S3 at hu3 f3 ⊢
  have F3 := f2.thenNew f3 (by omega)
  refine w_expr (y_meth ?_)
  walk_at "wp"
  refine ⟨ins_ok (F3.get hn (by simp)) rfl, ?_⟩
  walk_at "wp"
  refine ⟨rfl, (desk_note (k := k) (h0.fr F3) hu3 hl).mono ?_⟩
  rintro _ S4 ⟨h4, k4⟩
  exact ⟨p, hp, h4, (F3.more (by simp)).trans k4⟩
def dkDrop (D : Dk) (l : Str) : Dk := D.filter fun p => !decide (p.1 = l)
theorem dkHas_no {D : Dk} {l : Str} (h : l ∉ D.map (·.1)) : dkHas D l = false := by
  unfold dkHas
  rw [List.any_eq_false]
  intro p hp e
  exact h (List.mem_map.mpr ⟨p, hp, of_decide_eq_true e⟩)
theorem compD_dk {gt : U → En → Option En} {ft : FT} {fk fv : FE} {d : En} {S : Sto} {l : Str} : ∀ (E acc : Dk), (∀ p ∈ E, ∃ d1, gt (.str p.1) d = some d1 ∧ ft d1 S = .ok (!decide (p.1 = l)) S ∧ fk d1 S = .ok (.str p.1) S ∧ fv d1 S = .ok (dkv p) S) →
    ((acc ++ E).map (·.1)).Nodup → (acc ++ E).length < sizeLine →
    compD gt ft fk fv d (E.map fun p => U.str p.1) (dz (acc.map (·.1)), acc.map dkv) S = .ok (dz ((acc ++ dkDrop E l).map (·.1)), (acc ++ dkDrop E l).map dkv) S
  | [], acc, _, _, _ => by rw [show dkDrop [] l = [] from rfl, List.append_nil]; rfl
  | p :: E, acc, h, nd, hl => by
    obtain ⟨d1, e1, e2, e3, e4⟩ := h p List.mem_cons_self
    have hx : acc ++ p :: E = (acc ++ [p]) ++ E := by rw [List.append_assoc]; rfl
    rw [List.map_cons]
    unfold compD
    rw [e1]
    dsimp only
    cases e : decide (p.1 = l) with
    | true =>
      rw [show ft d1 S = .ok false S by rw [e2, e]; rfl]
      rw [show dkDrop (p :: E) l = dkDrop E l from by unfold dkDrop; rw [List.filter_cons, e]; rfl]
      dsimp only
      refine compD_dk E acc (fun q hq => h q (List.mem_cons_of_mem _ hq)) (nd.sublist (List.Sublist.map _ (List.Sublist.append_left (List.sublist_cons_self _ _) _))) ?_
      rw [List.length_append] at hl ⊢
      rw [List.length_cons] at hl
      omega
    | false =>
      rw [show ft d1 S = .ok true S by rw [e2, e]; rfl]
      rw [show dkDrop (p :: E) l = p :: dkDrop E l from by unfold dkDrop; rw [List.filter_cons, e]; rfl]
      dsimp only
      rw [e3]
      dsimp only
      rw [e4]
      dsimp only [keyU]
      have hn : dkHas acc p.1 = false := dkHas_no fun hm => by
        rw [List.map_append, List.map_cons, List.nodup_append] at nd
        exact nd.2.2 _ hm _ List.mem_cons_self rfl
      have ep : dkPut acc p = acc ++ [p] := if_neg (by rw [hn]; decide)
      rw [show dz (acc.map (·.1)) = dz (acc.map (·.1)) from rfl, put_dk acc p, ep]
      have hl2 : (dz (acc.map (·.1))).length < sizeLine := by
        unfold dz
        rw [List.length_map, List.length_map]
        rw [List.length_append, List.length_cons] at hl
        omega
      rw [show decide ((dz (acc.map (·.1))).length < sizeLine) = true from decide_eq_true hl2]
      show compD gt ft fk fv d (E.map fun p => U.str p.1) (dz ((acc ++ [p]).map (·.1)), (acc ++ [p]).map dkv) S = _
      rw [compD_dk E (acc ++ [p]) (fun q hq => h q (List.mem_cons_of_mem _ hq)) (by rw [← hx]; exact nd) (by rw [← hx]; exact hl), List.append_assoc]
      rfl
theorem kU_dk (D : Dk) : (dz (D.map (·.1))).map kU = D.map fun p => U.str p.1 := by
  unfold dz
  rw [List.map_map, List.map_map]
  rfl
theorem set_back {S : Sto} {n : Nat} {o b : Ob} (h : S[n]? = some o) : (S.set n b).set n o = S := by
  rw [List.set_set]
  refine List.ext_getElem? fun i => ?_
  by_cases e : n = i
  · subst e
    rw [List.getElem?_set_self (List.getElem?_eq_some_iff.mp h).1, h]
  · rw [List.getElem?_set_ne e]
theorem desk_getE {n t a kn : Nat} {m : Int} {d : En} {S : Sto} (hd : d[0]? = some (some (.loc n))) (hn : S[n]? = some (.ins "Desk" (deskF (.loc t) (.loc a) m (.loc kn)))) : fGet "Desk" "there" (fVar 0) d S = .ok (.loc t) S :=
  Y.eq (y_get (y_var hd ⟨n, _, _, rfl, hn, rfl, rfl, rfl⟩))
set_option maxHeartbeats 1000000 in
theorem desk_drop {k n a : Nat} {D : Dk} {As : List Dk} {m : Int} {l : Str} {S : Sto} (h : DeskAt n a D As m S) (nd : (D.map (·.1)).Nodup) (hd : D.length ≤ 100000) (hl : As.length ≤ 100000) :
    Pst (call (k + 2) i_Desk_drop [.loc n, .str l] S) (fun r S' => dkHas D l = true ∧ DeskAt n a (dkDrop D l) (As ++ [D]) (m + 1) S' ∧ Fr [n, a] S S') (fun x S' => dkHas D l = false ∧ x = noLab l ∧ S' = S) := by
  have h0 := h
  obtain ⟨t, kn, ls, hn, ht, ha, hls, hkn⟩ := h
  refine y_runX ?_
  show WS (b_Desk_drop (call (k + 1)) [some (.loc n), some (.str l), none] S) _
  unfold b_Desk_drop
  refine w_seq (w_exprM ?_)
  walk_at "wp"
  refine ⟨ins_ok hn rfl, ?_⟩
  walk_at "wp"
  refine ⟨rfl, (desk_need (k := k) (l := l) h0).mono ?_ ?_⟩
  case refine_2 =>
    rintro x S1 ⟨h1, h2, h3⟩
    exact ⟨h1, h2, h3⟩
  rintro _ S1 ⟨hh, hS⟩
  subst hS
  refine w_expr (y_meth ?_)
  walk_at "wp"
  refine ⟨ins_ok hn rfl, ?_⟩
  have tn : t ≠ n := fun e => by rw [e, hn] at ht; cases ht
  have ht' : S1[t]? = some (.dic (dz (D.map (·.1))) (D.map dkv)) := ht
  have hn' : (S1.set t .dead)[n]? = some (.ins "Desk" (deskF (.loc t) (.loc a) m (.loc kn))) := by rw [List.getElem?_set_ne tn]; exact hn
  have ec : dCompK (fGet "Desk" "there" (fVar 0)) (gN 2) (fB (f2 neU (fVar 2) (fVar 1))) (fVar 2) 2 [2] [some (.loc n), some (.str l), none] S1 = .ok (dz ((dkDrop D l).map (·.1)), (dkDrop D l).map dkv) S1 := by
    unfold dCompK
    rw [desk_getE rfl hn]
    dsimp only
    rw [ht']
    dsimp only
    unfold dComp aKeysAt
    rw [desk_getE rfl hn']
    show unlD t _ (((if t = t then R.ok ((dz (D.map (·.1))).map kU) (S1.set t .dead) else .bad)).bind _) = _
    rw [if_pos rfl, kU_dk]
    show unlD t _ (compD (gN 2) (fB (f2 neU (fVar 2) (fVar 1))) (fVar 2) (fReadAt t (dz (D.map (·.1))) (D.map dkv) (fGet "Desk" "there" (fVar 0)) 2) [some (.loc n), some (.str l), none] (D.map fun p => U.str p.1) (dz (([] : Dk).map (·.1)), ([] : Dk).map dkv) (S1.set t .dead)) = _
    rw [compD_dk (l := l) D [] (fun p hp => ?_) nd (by rw [List.nil_append, sizeL]; omega)]
    · show R.ok (dz ((dkDrop D l).map (·.1)), (dkDrop D l).map dkv) ((S1.set t .dead).set t _) = _
      rw [set_back ht']
    · refine ⟨[some (.loc n), some (.str l), some (.str p.1)], rfl, ?_, rfl, ?_⟩
      · obtain ⟨b, S2, e, e1, e2⟩ := (y_B (y_f2 (y_var rfl (y_var rfl (y_neS (y_unB ⟨rfl, rfl⟩))))) : Y (fB (f2 neU (fVar 2) (fVar 1)) [some (.loc n), some (.str l), some (.str p.1)] (S1.set t .dead)) fun b S2 => b = (!decide (p.1 = l)) ∧ S2 = S1.set t .dead).ok
        rw [e, e1, e2]
      · unfold fReadAt
        rw [desk_getE rfl hn']
        show (if t = t then oU (valU (dz (D.map (·.1))) (D.map dkv) (.inr p.1)) (S1.set t .dead) else .bad) = _
        rw [if_pos rfl, val_dk]
        have hf : dkAt D p.1 = some p := by
          clear ht ht' h0 hh hd
          induction D with
          | nil => cases hp
          | cons q D ih =>
            unfold dkAt
            rw [List.find?_cons]
            rw [List.map_cons, List.nodup_cons] at nd
            by_cases e : q.1 = p.1
            · rw [decide_eq_true e]
              rcases List.mem_cons.mp hp with e2 | e2
              · rw [e2]
              · exact absurd (List.mem_map.mpr ⟨p, e2, e.symm⟩) nd.1
            · rw [decide_eq_false e]
              rcases List.mem_cons.mp hp with e2 | e2
              · exact absurd (by rw [e2]) e
              · exact ih nd.2 e2
        rw [hf]
        rfl
  refine y_cons (y_dlocG (Y.of ec ?_))
  intro u S2 eu hu2 l2 f2
  have hu2 : S2[u]? = some (dkO (dkDrop D l)) := hu2
  walk_at "wp"
  refine ⟨rfl, (desk_note (k := k) (h0.fr f2) hu2 hl).mono ?_⟩
  rintro _ S4 ⟨h4, k4⟩
  exact ⟨hh, h4, (f2.more (by simp)).trans k4⟩
theorem y_popE {f : Nat} {us : List U} {u : U} {S : Sto} {Q : U → Sto → Prop} (hf : S[f]? = some (.lst (us ++ [u]))) (h : ∀ S', S'[f]? = some (.lst us) → S'.length = S.length → Fr [f] S S' → Q u S') : Y (popLM (.loc f) [] S) Q := by
  unfold popLM
  simp only [hf]
  rw [show (us ++ [u])[(us ++ [u]).length - 1]? = some u from by
    rw [List.length_append, List.length_singleton, Nat.add_sub_cancel, List.getElem?_append_right (Nat.le_refl _), Nat.sub_self]; rfl]
  dsimp only
  rw [List.dropLast_concat]
  exact y_ok (h _ (List.getElem?_set_self (List.getElem?_eq_some_iff.mp hf).1) List.length_set (Fr.set (by simp)))
theorem DksAt.pop {ls : List Nat} {As : List Dk} {l : Nat} {D : Dk} {S : Sto} (h : DksAt (ls ++ [l]) (As ++ [D]) S) : DksAt ls As S ∧ S[l]? = some (dkO D) := by
  obtain ⟨hl, h⟩ := h
  rw [List.length_append, List.length_append] at hl
  have hl : ls.length = As.length := by simpa using hl
  refine ⟨⟨hl, fun i l' D' h1 h2 => h i l' D' ?_ ?_⟩, h ls.length l D ?_ ?_⟩
  · rw [List.getElem?_append_left (List.getElem?_eq_some_iff.mp h1).1]; exact h1
  · rw [List.getElem?_append_left (List.getElem?_eq_some_iff.mp h2).1]; exact h2
  · rw [List.getElem?_append_right (Nat.le_refl _), Nat.sub_self]; rfl
  · rw [hl, List.getElem?_append_right (Nat.le_refl _), Nat.sub_self]; rfl
theorem undo_none {k n a : Nat} {D : Dk} {m : Int} {S : Sto} (h : DeskAt n a D [] m S) : Pst (call (k + 1) i_Desk_undo [.loc n] S) (fun _ _ => False) (fun x S' => x = noLab "undo" ∧ S' = S) := by
  obtain ⟨t, kn, ls, hn, ht, ha, hls, hkn⟩ := h
  have e0 : ls = [] := List.eq_nil_of_length_eq_zero hls.1
  subst e0
  refine y_runX ?_
  show WS (b_Desk_undo (call k) [some (.loc n)] S) _
  unfold b_Desk_undo
  refine w_seq (w_if (y_B (y_f2 (y_A (y_cons (y_get ?_))))))
  walk_at "wp"
  refine ⟨n, _, _, rfl, hn, rfl, ?_⟩
  walk_at "wp"
  refine y_lenLc ha ?_
  walk_at "wp"
  refine ite_b (fun _ => ?_) (fun z => by cases z)
  refine w_raise ?_
  walk_at "wp"
  exact ⟨_, rfl, rfl, rfl⟩
set_option maxHeartbeats 1000000 in
theorem undo_some {k n a : Nat} {D E : Dk} {As : List Dk} {m : Int} {S : Sto} (h : DeskAt n a D (As ++ [E]) m S) : Y (call (k + 1) i_Desk_undo [.loc n] S) fun r S' => DeskAt n a E As (m + 1) S' ∧ Fr [n, a] S S' := by
  obtain ⟨t, kn, ls0, hn, ht, ha, hls, hkn⟩ := h
  rcases List.eq_nil_or_concat ls0 with e | ⟨ls, l, e⟩
  · subst e
    have := hls.1
    rw [List.length_append] at this
    simp at this
  subst e
  rw [List.concat_eq_append] at ha hls
  obtain ⟨hls, hE⟩ := hls.pop
  have na : a ≠ n := fun e => by rw [e, hn] at ha; cases ha
  have off : ∀ (l : Nat) (ks : List Key) (us : List U), S[l]? = some (.dic ks us) → l ≠ n ∧ l ≠ a := fun l ks us q => ⟨fun e => (by rw [e, hn] at q; cases q), fun e => (by rw [e, ha] at q; cases q)⟩
  refine y_run ?_
  show WS (b_Desk_undo (call k) [some (.loc n)] S) _
  unfold b_Desk_undo
  refine w_seq (w_if (y_B (y_f2 (y_A (y_cons (y_get ?_))))))
  walk_at "wp"
  refine ⟨n, _, _, rfl, hn, rfl, ?_⟩
  walk_at "wp"
  refine y_lenLc ha ?_
  walk_at "wp"
  refine ite_b (fun z => ?_) (fun _ => ?_)
  · have z := of_decide_eq_true z
    rw [List.length_map, List.length_append] at z
    simp only [List.length_singleton] at z
    omega
  refine w_nop ?_
  refine w_seq (w_putFQ (n := n) (fs := deskF (.loc t) (.loc a) m (.loc kn)) rfl (by show 4 < 1000; decide) ?_)
  refine y_M (y_get ?_)
  walk_at "wp"
  refine ⟨n, _, _, rfl, hn, rfl, ty_list ha, ?_⟩
  walk_at "wp"
  rw [List.map_append] at ha
  refine y_popE ha ?_
  intro S1 h1 l1 f1
  have hn1 := f1.get hn (by simpa using Ne.symm na)
  have F1 : Fr [n, a] S S1 := f1.more (by simp)
  refine ⟨hn1, fun S2 h2 l2 f2 => ?_⟩
  rw [desk_there] at h2
  have F2 := F1.trans (f2.more (by simp))
  refine w_seq (w_putFQ (fs := deskF (.loc l) (.loc a) m (.loc kn)) rfl (by show 4 < 1000; decide) ?_)
  refine y_f2 (y_get ?_)
  walk_at "wp"
  refine ⟨n, _, _, rfl, h2, rfl, ?_⟩
  walk_at "wp"
  refine ⟨h2, fun S3 h3 l3 f3 => ?_⟩
  rw [desk_many] at h3
  have F3 := F2.trans (f3.more (by simp))
  refine w_putFQ (fs := deskF (.loc l) (.loc a) (m + 1) (.loc kn)) rfl (by show 4 < 1000; decide) ?_
  refine y_dlocG ?_
  refine Y.of (show dNew _ S3 = .ok ([], []) S3 from rfl) ?_
  intro kn2 S4 ek h4 l4 f4
  have h4 : S4[kn2]? = some (.dic [] []) := h4
  refine ⟨f4.get h3 (by simp), fun S5 h5 l5 f5 => ?_⟩
  rw [desk_known] at h5
  have F4 : Fr [n, a] S S4 := F3.trans (f4.more (by simp))
  have F5 : Fr [n, a] S S5 := F4.trans (f5.more (by simp))
  have keep : ∀ (l : Nat) (ks : List Key) (us : List U), S[l]? = some (.dic ks us) → S5[l]? = some (.dic ks us) := fun l ks us q => F5.get q (by have := off l ks us q; simp [this.1, this.2])
  have ha5 : S5[a]? = some (.lst (ls.map .loc)) := ((f2.trans (f3.trans ((f4.more (by simp)).trans f5)))).get h1 (by simpa using na)
  have hkn5 : S5[kn2]? = some (.dic [] []) := f5.get h4 (by
    have := (List.getElem?_eq_some_iff.mp h3).1
    simp
    omega)
  refine ⟨⟨l, kn2, ls, h5, keep l _ _ hE, ha5, hls.fr F5 fun l hl => ?_, hkn5⟩, F5⟩
  obtain ⟨D', q⟩ := hls.off hl
  have := off l _ _ q
  simp [this.1, this.2]
inductive Rw where
  | put (l sd : Str) (x : Say) | drop (l : Str) | move (l : Str)
def Rw.u : Rw → U
  | .put l sd x => .tup [.str "put", .str l, .str sd, x.u]
  | .drop l => .tup [.str "drop", .str l]
  | .move l => .tup [.str "move", .str l]
def Rw.lab : Rw → Str
  | .put l _ _ => l
  | .drop l => l
  | .move l => l
def sideOk (s : Str) : Prop := s = "one" ∨ s = "other"
def Rw.Ok (ws : List Str) : Rw → Prop
  | .put l sd x => l ∈ ws ∧ sideOk sd ∧ x.On WB ∧ x.deep ≤ 6 ∧ x.parts ≤ 7
  | .drop l => l ∈ ws
  | .move l => l ∈ ws
def aft (D : Dk) : Rw → Option Dk
  | .put l sd x => if dkHas D l = true then none else some (D ++ [(l, sd, x.u)])
  | .drop l => if dkHas D l = true then some (dkDrop D l) else none
  | .move l => (dkAt D l).map fun p => dkPut D (l, sideN p.2.1, p.2.2)
structure DkOk (ws : List Str) (D : Dk) : Prop where
  nd : (D.map (·.1)).Nodup
  lab : ∀ p ∈ D, p.1 ∈ ws
  side : sidesOk D
theorem DkOk.len {ws : List Str} {D : Dk} (h : DkOk ws D) : D.length ≤ ws.length := by
  have := nodup_sub h.nd (m := ws) fun x hx => by
    obtain ⟨p, hp, rfl⟩ := List.mem_map.mp hx
    exact h.lab p hp
  rw [List.length_map] at this
  exact this
theorem dkHas_of {D : Dk} {l : Str} : dkHas D l = true ↔ l ∈ D.map (·.1) := by
  constructor
  · intro h
    obtain ⟨p, hp, e⟩ := List.any_eq_true.mp (show (D.any fun p => decide (p.1 = l)) = true from h)
    exact List.mem_map.mpr ⟨p, hp, of_decide_eq_true e⟩
  · intro h
    obtain ⟨p, hp, e⟩ := List.mem_map.mp h
    exact List.any_eq_true.mpr ⟨p, hp, decide_eq_true e⟩
theorem sideN_ok (s : Str) : sideOk (sideN s) := by
  unfold sideN sideOk
  split
  · exact .inl rfl
  · exact .inr rfl
theorem aft_ok {ws : List Str} {D E : Dk} {r : Rw} (h : DkOk ws D) (hr : r.Ok ws) (e : aft D r = some E) : DkOk ws E := by
  cases r with
  | put l sd x =>
    have e : (if dkHas D l = true then none else some (D ++ [(l, sd, x.u)])) = some E := e
    split at e
    · cases e
    · rename_i q
      cases e
      refine ⟨?_, fun p hp => ?_, fun p hp => ?_⟩
      · rw [List.map_append, List.nodup_append]
        refine ⟨h.nd, by simp, fun a ha b hb e => ?_⟩
        have hb : b = l := by simpa using hb
        exact q (dkHas_of.mpr (by rw [← hb, ← e]; exact ha))
      · rcases List.mem_append.mp hp with q | q
        · exact h.lab p q
        · rw [List.mem_singleton.mp q]; exact hr.1
      · rcases List.mem_append.mp hp with q | q
        · exact h.side p q
        · rw [List.mem_singleton.mp q]; exact hr.2.1
  | drop l =>
    have e : (if dkHas D l = true then some (dkDrop D l) else none) = some E := e
    split at e
    · cases e
      exact ⟨h.nd.sublist (List.Sublist.map _ List.filter_sublist), fun p hp => h.lab p ((List.mem_filter.mp hp).1), fun p hp => h.side p ((List.mem_filter.mp hp).1)⟩
    · cases e
  | move l =>
    obtain ⟨p, hp, rfl⟩ := Option.map_eq_some_iff.mp (show (dkAt D l).map _ = some E from e)
    have hp : D.find? (fun p => decide (p.1 = l)) = some p := hp
    have hm := List.mem_of_find?_eq_some hp
    have hq := List.find?_some hp
    have hl : p.1 = l := of_decide_eq_true hq
    have hh : dkHas D l = true := dkHas_of.mpr (List.mem_map.mpr ⟨p, hm, hl⟩)
    have ep : dkPut D (l, sideN p.2.1, p.2.2) = D.map fun q => if q.1 = l then (l, sideN p.2.1, p.2.2) else q := if_pos hh
    rw [ep]
    refine ⟨?_, fun q hq => ?_, fun q hq => ?_⟩
    · rw [keys_dk (l, sideN p.2.1, p.2.2) D]; exact h.nd
    · obtain ⟨q', hq', rfl⟩ := List.mem_map.mp hq
      split
      · show l ∈ ws; rw [← hl]; exact h.lab p hm
      · exact h.lab q' hq'
    · obtain ⟨q', hq', rfl⟩ := List.mem_map.mp hq
      split
      · exact sideN_ok _
      · exact h.side q' hq'
def DeedQ (n a : Nat) (D : Dk) (As : List Dk) (m : Int) (r : Rw) (S S' : Sto) : Prop := ∃ E, aft D r = some E ∧ DeskAt n a E (As ++ [D]) (m + 1) S' ∧ Fr [n, a] S S'
def DeedE (D : Dk) (r : Rw) (S : Sto) (x : Exc) (S' : Sto) : Prop := aft D r = none ∧ x = noLab r.lab ∧ S' = S
section
variable {k n a : Nat} {D : Dk} {As : List Dk} {m : Int} {S : Sto} {ws : List Str}
theorem deed_put {l sd : Str} {x : Say} (h : DeskAt n a D As m S) (hd : D.length ≤ 100000) (hl : As.length ≤ 100000) : Pst (call (k + 2) i_Desk_put [.loc n, .str l, .str sd, x.u] S) (fun _ S' => DeedQ n a D As m (.put l sd x) S S') (DeedE D (.put l sd x) S) := by
  refine (desk_put h hd hl).mono ?_ ?_
  · rintro _ S' ⟨q, h1, h2⟩
    exact ⟨_, if_neg (by rw [q]; decide), h1, h2⟩
  · rintro x S' ⟨q, h1, h2⟩
    exact ⟨if_pos q, h1, h2⟩
theorem deed_drop {l : Str} (h : DeskAt n a D As m S) (nd : (D.map (·.1)).Nodup) (hd : D.length ≤ 100000) (hl : As.length ≤ 100000) : Pst (call (k + 2) i_Desk_drop [.loc n, .str l] S) (fun _ S' => DeedQ n a D As m (.drop l) S S') (DeedE D (.drop l) S) := by
  refine (desk_drop h nd hd hl).mono ?_ ?_
  · rintro _ S' ⟨q, h1, h2⟩
    exact ⟨_, if_pos q, h1, h2⟩
  · rintro x S' ⟨q, h1, h2⟩
    exact ⟨if_neg (by rw [q]; decide), h1, h2⟩
theorem deed_move {l : Str} (h : DeskAt n a D As m S) (hs : sidesOk D) (hd : D.length ≤ 100000) (hl : As.length ≤ 100000) : Pst (call (k + 2) i_Desk_move [.loc n, .str l] S) (fun _ S' => DeedQ n a D As m (.move l) S S') (DeedE D (.move l) S) := by
  refine (desk_move h hs hd hl).mono ?_ ?_
  · rintro _ S' ⟨p, q, h1, h2⟩
    exact ⟨_, by show (dkAt D l).map _ = _; rw [q]; rfl, h1, h2⟩
  · rintro x S' ⟨q, h1, h2⟩
    refine ⟨?_, h1, h2⟩
    show (dkAt D l).map _ = _
    have := dkHas_some l D
    rw [q] at this
    cases e : dkAt D l with
    | none => rfl
    | some p => rw [e] at this; cases this
end
def sideB : U → Bool
  | .str s => decide (s = "one") || decide (s = "other")
  | _ => false
def putB : List U → Bool
  | [s, x] => sideB s && decide (cnt 25 x ≤ 400)
  | _ => false
def rowT (z : Str) (w : U) (rest : List U) : Bool := wordB w && (if z ∈ (["drop", "move"] : List Str) then decide (rest.length = 0) else decide (z = "put") && putB rest)
theorem rowT_no {z : Str} {w : U} {rest : List U} (h : (if z ∈ (["drop", "move"] : List Str) then decide (rest.length = 0) else decide (z = "put") && putB rest) = false) : rowT z w rest = false := by
  unfold rowT
  rw [h, Bool.and_false]
theorem is_rowN {k : Nat} {u : U} {S : Sto} (h1 : isiC [u, .ty "tuple"] S = .ok (.bl (isTup u)) S) (h : ∀ us, u = .tup us → us.length < 2) : Y (call (k + 1) i_is_row [u] S) fun r S' => r = .bl false ∧ S' = S := by
  refine y_run ?_
  show WS (b_is_row (call k) [some u] S) _
  unfold b_is_row
  refine w_seq (w_ifP (fun b => b = true) ?_ (fun _ => ?_) (fun z => by cases z))
  · walk_at "wp"
    refine Y.of h1 ?_
    walk_at "wp"
    cases e : isTup u with
    | false => refine ite_b (fun _ => ⟨rfl, rfl⟩) (fun z => by cases z)
    | true =>
      obtain ⟨us, rfl⟩ : ∃ us, u = .tup us := by cases u <;> first | exact ⟨_, rfl⟩ | cases e
      refine ite_b (fun z => by cases z) (fun _ => ?_)
      walk_at "wp"
      refine y_lenT ?_
      walk_at "wp"
      have := h us rfl
      refine ite_b (fun _ => ⟨rfl, rfl⟩) (fun z => absurd (of_decide_eq_false z) (by omega))
  · walk_at "wp"
    exact ⟨rfl, rfl⟩
theorem is_rowT {k c : Nat} {z : Str} {w : U} {rest : List U} {S : Sto} (hw : Pl c 60 w) (hr : ∀ v ∈ rest, Pl c 60 v) (hz : z.length ≤ sizeLine) : Y (call (k + 29) i_is_row [.tup (.str z :: w :: rest)] S) fun r S' => r = .bl (rowT z w rest) ∧ S' = S := by
  refine y_run ?_
  show WS (b_is_row (call (k + 28)) [some (.tup (.str z :: w :: rest))] S) _
  unfold b_is_row c_SIDES
  refine w_seq (w_ifP (fun b => b = !wordB w) ?_ (fun q => ?_) (fun q => ?_))
  · walk_at "wp"
    refine Y.of (show isiC [.tup (.str z :: w :: rest), .ty "tuple"] S = .ok (.bl true) S from rfl) ?_
    walk_at "wp"
    refine ite_b (fun z => by cases z) (fun _ => ?_)
    walk_at "wp"
    refine y_lenT ?_
    walk_at "wp"
    refine ite_b (fun z => absurd (of_decide_eq_true z) (by rw [List.length_cons, List.length_cons]; omega)) (fun _ => ?_)
    walk_at "wp"
    refine y_ixT1 ?_
    walk_at "wp"
    refine ⟨rfl, (is_word (k := k + 27) hw).mono ?_⟩
    rintro _ _ ⟨rfl, rfl⟩
    walk_at "wp"
    exact ⟨rfl, rfl⟩
  · walk_at "wp"
    have q : wordB w = false := by cases e : wordB w with | true => rw [e] at q; cases q | false => rfl
    exact ⟨by unfold rowT; rw [q]; rfl, rfl⟩
  have q : wordB w = true := by cases e : wordB w with | true => rfl | false => rw [e] at q; cases q
  have er : rowT z w rest = (if z ∈ (["drop", "move"] : List Str) then decide (rest.length = 0) else decide (z = "put") && putB rest) := by unfold rowT; rw [q]; rfl
  rw [er]
  refine w_nop (w_seq (w_if ?_))
  walk_at "wp"
  refine y_ixT0 ?_
  walk_at "wp"
  refine y_inT ["drop", "move"] rfl ?_
  walk_at "wp"
  refine ite_b (fun c => ?_) (fun c => ?_)
  · have c := of_decide_eq_true c
    rw [if_pos c]
    walk_at "wp"
    refine y_lenT ?_
    walk_at "wp"
    refine ⟨?_, rfl⟩
    congr 1
    refine decide_eq_decide.mpr ?_
    rw [List.length_cons, List.length_cons]
    omega
  have c := of_decide_eq_false c
  rw [if_neg c]
  refine w_nop (w_seq (w_ifP (fun b => (b = true → (decide (z = "put") && putB rest) = false) ∧ (b = false → z = "put" ∧ ∃ s x, rest = [.str s, x])) ?_ (fun q => ?_) (fun q => ?_)))
  · walk_at "wp"
    refine y_ixT0 ?_
    walk_at "wp"
    refine ite_b (fun c1 => ?_) (fun c1 => ?_)
    · exact ⟨rfl, fun _ => by rw [show decide (z = "put") = false by simpa using c1]; rfl, fun z => by cases z⟩
    have c1 : z = "put" := by simpa using c1
    walk_at "wp"
    refine y_lenT ?_
    walk_at "wp"
    refine ite_b (fun c2 => ?_) (fun c2 => ?_)
    · refine ⟨rfl, fun _ => ?_, fun z => by cases z⟩
      have c2 : ¬ (((U.str z :: w :: rest).length : Int) = 4) := by simpa using c2
      rw [List.length_cons, List.length_cons] at c2
      rw [show putB rest = false from by
        unfold putB
        split
        · exact absurd rfl c2
        · rfl, Bool.and_false]
    have c2 : ((U.str z :: w :: rest).length : Int) = 4 := by simpa using c2
    rw [List.length_cons, List.length_cons] at c2
    obtain ⟨s, x, rfl⟩ : ∃ s x, rest = [s, x] := by
      cases rest with
      | nil => simp at c2
      | cons s r => cases r with
        | nil => simp at c2
        | cons x r => cases r with
          | nil => exact ⟨s, x, rfl⟩
          | cons y r => simp at c2; omega
    walk_at "wp"
    refine y_ix (u := s) rfl ?_
    walk_at "wp"
    refine y_isS (hr s List.mem_cons_self) ?_
    walk_at "wp"
    cases s with
    | str s => exact ⟨rfl, fun z => (by cases z), fun _ => ⟨c1, s, x, rfl⟩⟩
    | _ => exact ⟨rfl, fun _ => Bool.and_false _, fun z => by cases z⟩
  · walk_at "wp"
    exact ⟨by rw [q.1 rfl], rfl⟩
  obtain ⟨rfl, s, x, rfl⟩ := q.2 rfl
  refine w_nop (w_ret (y_andV ?_))
  walk_at "wp"
  refine y_ix (u := .str s) rfl ?_
  walk_at "wp"
  refine y_inT ["one", "other"] rfl ?_
  walk_at "wp"
  refine ite_b (fun c1 => ?_) (fun c1 => ?_)
  · have c1 := of_decide_eq_true c1
    walk_at "wp"
    refine y_ix (u := x) rfl ?_
    walk_at "wp"
    refine ⟨rfl, (is_saying (k := k) (hr x (by simp))).mono ?_⟩
    rintro _ _ ⟨rfl, rfl⟩
    refine ⟨?_, rfl⟩
    congr 1
    have : sideB (.str s) = true := by
      rcases List.mem_cons.mp c1 with e | e
      · subst e; rfl
      · rw [List.mem_singleton.mp e]; rfl
    show _ = (decide (("put" : Str) = "put") && (sideB (.str s) && decide (cnt 25 x ≤ 400)))
    rw [this, decide_eq_true rfl]
    rfl
  · refine ⟨?_, rfl⟩
    have c1 := of_decide_eq_false c1
    have : sideB (.str s) = false := by
      show (decide (s = "one") || decide (s = "other")) = false
      rw [decide_eq_false (fun e => c1 (by rw [e]; simp)), decide_eq_false (fun e => c1 (by rw [e]; simp))]
      rfl
    rw [decide_eq_false (by simpa using c1)]
    show _ = U.bl (decide (("put" : Str) = "put") && (sideB (.str s) && decide (cnt 25 x ≤ 400)))
    rw [this, Bool.false_and, Bool.and_false]
inductive RowX where
  | good (r : Rw) | bad (u : U)
def RowX.u : RowX → U
  | .good r => r.u
  | .bad u => u
def badL (l : Str) : List U := [.tup [.str "put", .str l, .str "one"], .tup [.str "put", .str l, .str "both", .tup [.str "yes"]], .tup [.str "put", .str l, .str "one", .str "yes"], .tup [.str "drop"],
  .tup [.str "drop", .str "A"], .tup [.str "move", .str l, .str "one"], .lst [.str "drop", .str l], .tup [.str "undo"], .tup [], .non, .int 7, .str "drop", .tup [.str "drop", .int 7],
  .tup [.str "Drop", .str l], .tup [.str "put", .str l, .str "one", .tup [.str "name", .str "or"]], .tup [.str "put", .str l, .str "other", .tup []],
  .tup [.str "put", .str l, .str "one", .tup [.str "and", .tup [.str "yes"]]],
  .tup [.str "put", .str l, .str "one", .tup [.str "yes"], .int 1], .tup [.str "put", .str "not", .str "one", .tup [.str "yes"]], .tup [.str "put", .str l, .non, .tup [.str "yes"]]]
def RowX.Ok (ws : List Str) (l : Str) : RowX → Prop
  | .good r => r.Ok ws
  | .bad u => u ∈ badL l
theorem plB60 {u : U} (h : plB 100 60 u = true) : Pl 100 60 u := plB_ok h
theorem bad_rowT {k : Nat} {z : Str} {w : U} {rest : List U} {S : Sto} (hw : Pl 100 60 w) (hr : ∀ v ∈ rest, Pl 100 60 v) (hz : z.length ≤ sizeLine) (h : rowT z w rest = false) : Y (call (k + 29) i_is_row [.tup (.str z :: w :: rest)] S) fun r S' => r = .bl false ∧ S' = S := by
  refine (is_rowT hw hr hz).mono ?_
  rintro _ _ ⟨rfl, rfl⟩
  exact ⟨by rw [h], rfl⟩
theorem bad_row {k : Nat} {l : Str} {u : U} {S : Sto} (hl : WB l) (h : u ∈ badL l) : Y (call (k + 29) i_is_row [u] S) fun r S' => r = .bl false ∧ S' = S := by
  have pl : Pl 100 60 (.str l) := Pl.strs (wb_str hl)
  have short : ∀ {u : U}, isiC [u, .ty "tuple"] S = .ok (.bl (isTup u)) S → (∀ us, u = .tup us → us.length < 2) → Y (call (k + 29) i_is_row [u] S) fun r S' => r = .bl false ∧ S' = S := fun h1 h2 => is_rowN (k := k + 28) h1 h2
  have pc : ∀ {vs : List U}, (∀ v ∈ vs, Pl 100 60 v) → ∀ v ∈ vs, Pl 100 60 v := fun h => h
  unfold badL at h
  simp only [List.mem_cons, List.mem_nil_iff, or_false] at h
  have cl : ∀ vs : List U, (vs.all (plB 100 60)) = true → ∀ v ∈ vs, Pl 100 60 v := fun vs h v hv => plB60 (List.all_eq_true.mp h v hv)
  rcases h with rfl | rfl | rfl | rfl | rfl | rfl | rfl | rfl | rfl | rfl | rfl | rfl | rfl | rfl | rfl | rfl | rfl | rfl | rfl | rfl
  · exact bad_rowT pl (cl _ (by decide +kernel)) (by decide +kernel) (rowT_no (by decide +kernel))
  · exact bad_rowT pl (cl _ (by decide +kernel)) (by decide +kernel) (rowT_no (by decide +kernel))
  · exact bad_rowT pl (cl _ (by decide +kernel)) (by decide +kernel) (rowT_no (by decide +kernel))
  · exact short rfl (fun us e => by cases e; decide)
  · exact bad_rowT (plB60 (by decide +kernel)) (cl _ (by decide +kernel)) (by decide +kernel) (by decide +kernel)
  · exact bad_rowT pl (cl _ (by decide +kernel)) (by decide +kernel) (rowT_no (by decide +kernel))
  · exact short rfl (fun us e => by cases e)
  · exact short rfl (fun us e => by cases e; decide)
  · exact short rfl (fun us e => by cases e; decide)
  · exact short rfl (fun us e => by cases e)
  · exact short rfl (fun us e => by cases e)
  · exact short rfl (fun us e => by cases e)
  · exact bad_rowT (plB60 (by decide +kernel)) (cl _ (by decide +kernel)) (by decide +kernel) (by decide +kernel)
  · exact bad_rowT pl (cl _ (by decide +kernel)) (by decide +kernel) (rowT_no (by decide +kernel))
  · exact bad_rowT pl (cl _ (by decide +kernel)) (by decide +kernel) (rowT_no (by decide +kernel))
  · exact bad_rowT pl (cl _ (by decide +kernel)) (by decide +kernel) (rowT_no (by decide +kernel))
  · exact bad_rowT pl (cl _ (by decide +kernel)) (by decide +kernel) (rowT_no (by decide +kernel))
  · exact bad_rowT pl (cl _ (by decide +kernel)) (by decide +kernel) (rowT_no (by decide +kernel))
  · exact bad_rowT (plB60 (by decide +kernel)) (cl _ (by decide +kernel)) (by decide +kernel) (by decide +kernel)
  · exact bad_rowT pl (cl _ (by decide +kernel)) (by decide +kernel) (rowT_no (by decide +kernel))
theorem say60 {x : Say} (h1 : x.On WB) (h2 : x.deep ≤ 6) : Pl 100 60 x.u := Pl.ups (by omega) (by omega) (Say.pl (h1.mono fun w h => wb_str h))
theorem good_row {k : Nat} {ws : List Str} {r : Rw} {S : Sto} (hw : ∀ w ∈ ws, WB w) (h : r.Ok ws) : Y (call (k + 29) i_is_row [r.u] S) fun u S' => u = .bl true ∧ S' = S := by
  cases r with
  | put l sd x =>
    obtain ⟨h1, h2, h3, h4, h5⟩ := h
    have ps : Pl 100 60 (.str sd) := by rcases h2 with rfl | rfl <;> exact plB60 (by decide +kernel)
    refine (is_rowT (c := 100) (z := "put") (w := .str l) (rest := [.str sd, x.u]) (Pl.strs (wb_str (hw l h1))) (fun v hv => ?_) (by decide +kernel)).mono ?_
    · rcases List.mem_cons.mp hv with rfl | hv
      · exact ps
      · rw [List.mem_singleton.mp hv]
        exact say60 h3 h4
    · rintro _ _ ⟨rfl, rfl⟩
      refine ⟨?_, rfl⟩
      congr 1
      unfold rowT
      rw [show wordB (.str l) = true from hw l h1, if_neg (by decide +kernel)]
      show (true && (decide (("put" : Str) = "put") && (sideB (.str sd) && decide (cnt 25 x.u ≤ 400)))) = true
      rw [show sideB (.str sd) = true by rcases h2 with rfl | rfl <;> decide +kernel, cnt_of x 25 (by omega) h3, decide_eq_true (show ((x.parts : Nat) : Int) ≤ 400 by omega)]
      decide +kernel
  | drop l =>
    refine (is_rowT (c := 100) (z := "drop") (w := .str l) (rest := []) (Pl.strs (wb_str (hw l h))) (fun v hv => by cases hv) (by decide +kernel)).mono ?_
    rintro _ _ ⟨rfl, rfl⟩
    refine ⟨?_, rfl⟩
    congr 1
    unfold rowT
    rw [show wordB (.str l) = true from hw l h, if_pos (by decide +kernel)]
    rfl
  | move l =>
    refine (is_rowT (c := 100) (z := "move") (w := .str l) (rest := []) (Pl.strs (wb_str (hw l h))) (fun v hv => by cases hv) (by decide +kernel)).mono ?_
    rintro _ _ ⟨rfl, rfl⟩
    refine ⟨?_, rfl⟩
    congr 1
    unfold rowT
    rw [show wordB (.str l) = true from hw l h, if_pos (by decide +kernel)]
    rfl
def noRow (i : Nat) : Exc := ⟨"NoRow", "row", .int (i : Int)⟩
theorem do_bad {k n i : Nat} {l : Str} {u : U} {S : Sto} (hl : WB l) (h : u ∈ badL l) : Pst (call (k + 30) i_Desk_do [.loc n, u, .int (i : Nat)] S) (fun _ _ => False) (fun x S' => x = noRow i ∧ S' = S) := by
  refine y_runX ?_
  show WS (b_Desk_do (call (k + 29)) [some (.loc n), some u, some (.int (i : Nat))] S) _
  unfold b_Desk_do
  refine w_seq (w_if ?_)
  walk_at "wp"
  refine ⟨rfl, (bad_row hl h).mono ?_⟩
  rintro _ _ ⟨rfl, rfl⟩
  walk_at "wp"
  refine ite_b (fun _ => ?_) (fun z => by cases z)
  refine w_raise ?_
  walk_at "wp"
  exact ⟨_, rfl, rfl, rfl⟩
section
variable {k n a : Nat} {D : Dk} {As : List Dk} {m : Int} {S : Sto} {ws : List Str}
theorem do_good {i : Nat} {r : Rw} (h : DeskAt n a D As m S) (hw : ∀ w ∈ ws, WB w) (hr : r.Ok ws) (hD : DkOk ws D) (hd : D.length ≤ 100000) (hl : As.length ≤ 100000) :
    Pst (call (k + 30) i_Desk_do [.loc n, r.u, .int (i : Nat)] S) (fun _ S' => DeedQ n a D As m r S S') (DeedE D r S) := by
  have h0 := h
  obtain ⟨t, kn, ls, hn, ht, ha, hls, hkn⟩ := h
  refine y_runX ?_
  show WS (b_Desk_do (call (k + 29)) [some (.loc n), some r.u, some (.int (i : Nat))] S) _
  unfold b_Desk_do
  refine w_seq (w_if ?_)
  walk_at "wp"
  refine ⟨rfl, (good_row hw hr).mono ?_⟩
  rintro _ _ ⟨rfl, rfl⟩
  walk_at "wp"
  refine ite_b (fun z => by cases z) (fun _ => ?_)
  refine w_nop (w_if ?_)
  walk_at "wp"
  cases r with
  | put l sd x =>
    refine y_ixT0 ?_
    walk_at "wp"
    refine ite_b (fun _ => ?_) (fun z => by cases z)
    refine w_exprM ?_
    walk_at "wp"
    refine ⟨ins_ok hn rfl, ?_⟩
    walk_at "wp"
    refine y_ix (u := .str l) rfl ?_
    walk_at "wp"
    refine y_ix (u := .str sd) rfl ?_
    walk_at "wp"
    refine y_ix (u := x.u) rfl ?_
    walk_at "wp"
    exact ⟨rfl, deed_put (k := k + 27) h0 hd hl⟩
  | drop l =>
    refine y_ixT0 ?_
    walk_at "wp"
    refine ite_b (fun z => by cases z) (fun _ => ?_)
    refine w_if ?_
    walk_at "wp"
    refine y_ixT0 ?_
    walk_at "wp"
    refine ite_b (fun _ => ?_) (fun z => by cases z)
    refine w_exprM ?_
    walk_at "wp"
    refine ⟨ins_ok hn rfl, ?_⟩
    walk_at "wp"
    refine y_ix (u := .str l) rfl ?_
    walk_at "wp"
    exact ⟨rfl, deed_drop (k := k + 27) h0 hD.nd hd hl⟩
  | move l =>
    refine y_ixT0 ?_
    walk_at "wp"
    refine ite_b (fun z => by cases z) (fun _ => ?_)
    refine w_if ?_
    walk_at "wp"
    refine y_ixT0 ?_
    walk_at "wp"
    refine ite_b (fun z => by cases z) (fun _ => ?_)
    refine w_exprM ?_
    walk_at "wp"
    refine ⟨ins_ok hn rfl, ?_⟩
    walk_at "wp"
    refine y_ix (u := .str l) rfl ?_
    walk_at "wp"
    exact ⟨rfl, deed_move (k := k + 27) h0 hD.side hd hl⟩
end
def sevR (D : Dk) : List RowX → Nat → Except Exc (List Dk)
  | [], _ => .ok []
  | .bad _ :: _, i => .error (noRow i)
  | .good r :: rs, i => match aft D r with
    | none => .error (noLab r.lab)
    | some E => match sevR E rs (i + 1) with
      | .ok L => .ok (E :: L)
      | .error x => .error x
theorem sev_ok {ws : List Str} {l : Str} : ∀ {rs : List RowX} {D : Dk} {i : Nat} {L : List Dk}, DkOk ws D → (∀ x ∈ rs, x.Ok ws l) → sevR D rs i = .ok L → L.length ≤ rs.length ∧ ∀ E ∈ L, DkOk ws E
  | [], D, i, L, _, _, e => by cases e; exact ⟨Nat.le_refl _, fun E h => by cases h⟩
  | .bad u :: rs, D, i, L, _, _, e => by cases e
  | .good r :: rs, D, i, L, hD, hr, e => by
    have e : (match aft D r with
      | none => .error (noLab r.lab)
      | some E => match sevR E rs (i + 1) with
        | .ok L => .ok (E :: L)
        | .error x => .error x : Except Exc (List Dk)) = .ok L := e
    cases e1 : aft D r with
    | none => rw [e1] at e; cases e
    | some E =>
      rw [e1] at e
      dsimp only at e
      cases e2 : sevR E rs (i + 1) with
      | error x => rw [e2] at e; cases e
      | ok L' =>
        rw [e2] at e
        cases e
        have hE := aft_ok hD (hr _ List.mem_cons_self) e1
        obtain ⟨h1, h2⟩ := sev_ok hE (fun x hx => hr x (List.mem_cons_of_mem _ hx)) e2
        refine ⟨by rw [List.length_cons, List.length_cons]; omega, fun F hF => ?_⟩
        rcases List.mem_cons.mp hF with rfl | hF
        · exact hE
        · exact h2 F hF
def DeskL (n a : Nat) (Ls : List Dk) (m : Int) (S : Sto) : Prop := ∃ D As, Ls = As ++ [D] ∧ DeskAt n a D As m S
theorem w_fin {fb fs : FS} {d : En} {S : Sto} {D : EU} (h : WS (fb d S) { rt := fun _ _ => False, nx := fun d1 S1 => WS (fs d1 S1) { nx := D.nx, rt := fun _ _ => False }, ex := fun y d1 S1 => WS (fs d1 S1) { nx := fun d2 S2 => D.ex y d2 S2, rt := fun _ _ => False } }) : WS (fFin fb fs d S) D := by
  unfold fFin
  cases e : fb d S with
  | bad => rw [e] at h; exact h.out.elim
  | exc x S1 => rw [e] at h; exact h.out.elim
  | ok fl S1 =>
    rw [e] at h
    cases fl with
    | rt u => exact h.out.elim
    | bk d1 => exact h.out.elim
    | ct d1 => exact h.out.elim
    | nx d1 =>
      have h : WS (fs d1 S1) { nx := D.nx, rt := fun _ _ => False } := h.out
      dsimp only
      cases e2 : fs d1 S1 with
      | bad => rw [e2] at h; exact h.out.elim
      | exc x S2 => rw [e2] at h; exact h.out.elim
      | ok fl S2 =>
        rw [e2] at h
        cases fl with
        | nx d2 => exact ⟨h.out⟩
        | rt u => exact h.out.elim
        | bk d2 => exact h.out.elim
        | ct d2 => exact h.out.elim
        | ex y d2 => exact h.out.elim
    | ex y d1 =>
      have h : WS (fs d1 S1) { nx := fun d2 S2 => D.ex y d2 S2, rt := fun _ _ => False } := h.out
      dsimp only
      cases e2 : fs d1 S1 with
      | bad => rw [e2] at h; exact h.out.elim
      | exc x S2 => rw [e2] at h; exact h.out.elim
      | ok fl S2 =>
        rw [e2] at h
        cases fl with
        | nx d2 => exact ⟨h.out⟩
        | rt u => exact h.out.elim
        | bk d2 => exact h.out.elim
        | ct d2 => exact h.out.elim
        | ex y d2 => exact h.out.elim
theorem listC_locM {f : Nat} {us : List U} {S : Sto} (h : S[f]? = some (.lst us)) : listC [.loc f] S = .ok us S := by
  unfold listC seqOf DL.listOf listM
  simp only [h]
  first
    | done
    | rfl
theorem y_enumAX {fa : FA} {d : En} {S : Sto} {QA : List U → Sto → Prop} (h : Y (fa d S) fun us S1 => ∃ xs, us = [.lst xs] ∧ QA (enumU 0 xs) S1) : Y (aEnumA fa d S) QA := y_bind (h.mono fun us S1 ⟨xs, e, q⟩ => by
  subst e
  exact ⟨q⟩)
section
variable {k n a : Nat} {ws : List Str} {l : Str}
theorem sev_loop {R1 T2 M3 C4 : Option U} (hw : ∀ w ∈ ws, WB w) (hws : ws.length ≤ 7) (hl : l ∈ ws) : ∀ (rows : List RowX) (i : Nat) {D : Dk} {As : List Dk} {m : Int} {S : Sto} (x6 x7 : Option U), (∀ x ∈ rows, x.Ok ws l) → DeskAt n a D As m S → DkOk ws D → As.length + rows.length ≤ 90000 →
    WS (loopF (gTup 2 (gCons (gN 6) (gCons (gN 7) gNil))) (fExpr (fMeth "Desk" "do" 3 (call (k + 30) i_Desk_do) (fVar 0) (aCons (fVar 7) (aCons (fVar 6) aNil)))) (enumU i (rows.map RowX.u)) [some (.loc n), R1, T2, M3, C4, some .non, x6, x7] S)
      { rt := fun _ _ => False, nx := fun d' S' => ∃ (y6 y7 : Option U) (L : List Dk), d' = [some (.loc n), R1, T2, M3, C4, some .non, y6, y7] ∧ sevR D rows i = .ok L ∧ DeskL n a (As ++ D :: L) (m + (L.length : Nat)) S' ∧ Fr [n, a] S S',
        ex := fun x d' S' => ∃ (y6 y7 : Option U) (D' : Dk) (As' : List Dk) (m' : Int), d' = [some (.loc n), R1, T2, M3, C4, some .non, y6, y7] ∧ sevR D rows i = .error x ∧ DeskAt n a D' As' m' S' ∧ Fr [n, a] S S' }
  | [], i, D, As, m, S, x6, x7, _, h, _, _ => w_ln ⟨x6, x7, [], rfl, rfl, ⟨D, As, rfl, by rw [show m + (([] : List Dk).length : Nat) = m by simp]; exact h⟩, Fr.refl _ _⟩
  | .bad u :: rows, i, D, As, m, S, x6, x7, hr, h, _, _ => by
    obtain ⟨t, kn, ls, hn, ht, ha, hls, hkn⟩ := id h
    show WS (loopF _ _ (.tup [.int (i : Nat), u] :: enumU (i + 1) (rows.map RowX.u)) _ S) _
    refine w_lc (d1 := [some (.loc n), R1, T2, M3, C4, some .non, some (.int (i : Nat)), some u]) rfl ?_
    refine w_exprM ?_
    walk_at "wp"
    refine ⟨ins_ok hn rfl, ?_⟩
    walk_at "wp"
    refine ⟨rfl, (do_bad (k := k) (l := l) (hw l hl) (hr _ List.mem_cons_self)).mono (fun _ _ q => q.elim) ?_⟩
    rintro x S' ⟨rfl, rfl⟩
    exact ⟨_, _, D, As, m, rfl, rfl, h, Fr.refl _ _⟩
  | .good r :: rows, i, D, As, m, S, x6, x7, hr, h, hD, hlen => by
    obtain ⟨t, kn, ls, hn, ht, ha, hls, hkn⟩ := id h
    rw [List.length_cons] at hlen
    have hDl := hD.len
    show WS (loopF _ _ (.tup [.int (i : Nat), r.u] :: enumU (i + 1) (rows.map RowX.u)) _ S) _
    refine w_lc (d1 := [some (.loc n), R1, T2, M3, C4, some .non, some (.int (i : Nat)), some r.u]) rfl ?_
    refine w_exprM ?_
    walk_at "wp"
    refine ⟨ins_ok hn rfl, ?_⟩
    walk_at "wp"
    have hro : r.Ok ws := hr _ List.mem_cons_self
    refine ⟨rfl, (do_good (k := k) (i := i) h hw hro hD (by omega) (by omega)).mono ?_ ?_⟩
    · rintro _ S1 ⟨E, hE, h1, f1⟩
      refine (sev_loop hw hws hl rows (i + 1) (some (.int (i : Nat))) (some r.u) (fun x hx => hr x (List.mem_cons_of_mem _ hx)) h1 (aft_ok hD hro hE) (by rw [List.length_append, List.length_singleton]; omega)).mono ?_ (fun _ _ q => q) (fun _ _ q => q) (fun _ _ q => q) ?_
      · rintro d' S' ⟨y6, y7, L, e1, e2, ⟨D2, As2, e3, h2⟩, f2⟩
        refine ⟨y6, y7, E :: L, e1, ?_, ⟨D2, As2, ?_, ?_⟩, f1.trans f2⟩
        · show (match aft D r with
            | none => .error (noLab r.lab)
            | some E => match sevR E rows (i + 1) with
              | .ok L => .ok (E :: L)
              | .error x => .error x : Except Exc (List Dk)) = _
          rw [hE]
          dsimp only
          rw [e2]
        · rw [← e3, List.append_assoc]; rfl
        · rw [show m + ((E :: L).length : Nat) = m + 1 + (L.length : Nat) by rw [List.length_cons]; omega]
          exact h2
      · rintro x d' S' ⟨y6, y7, D', As', m', e1, e2, h2, f2⟩
        refine ⟨y6, y7, D', As', m', e1, ?_, h2, f1.trans f2⟩
        show (match aft D r with
          | none => .error (noLab r.lab)
          | some E => match sevR E rows (i + 1) with
            | .ok L => .ok (E :: L)
            | .error x => .error x : Except Exc (List Dk)) = _
        rw [hE]
        dsimp only
        rw [e2]
    · rintro x S' ⟨e1, rfl, rfl⟩
      refine ⟨_, _, D, As, m, rfl, ?_, h, Fr.refl _ _⟩
      show (match aft D r with
        | none => .error (noLab r.lab)
        | some E => match sevR E rows (i + 1) with
          | .ok L => .ok (E :: L)
          | .error x => .error x : Except Exc (List Dk)) = _
      rw [e1]
theorem set_same {S : Sto} {j : Nat} {o : Ob} (h : S[j]? = some o) : S.set j o = S := by
  refine List.ext_getElem? fun i => ?_
  by_cases e : j = i
  · subst e
    rw [List.getElem?_set_self (List.getElem?_eq_some_iff.mp h).1, h]
  · rw [List.getElem?_set_ne e]
set_option maxHeartbeats 1000000 in
theorem several {D : Dk} {As : List Dk} {m : Int} {S : Sto} (hw : ∀ w ∈ ws, WB w) (hws : ws.length ≤ 7) (hl : l ∈ ws) {rows : List RowX} (hr : ∀ x ∈ rows, x.Ok ws l) (h : DeskAt n a D As m S) (hD : DkOk ws D) (hlen : As.length + rows.length ≤ 90000) :
    Pst (call (k + 31) i_Desk_several [.loc n, .lst (rows.map RowX.u)] S) (fun _ S' => ∃ L, sevR D rows 0 = .ok L ∧ DeskL n a (As ++ D :: L) (m + (L.length : Nat)) S' ∧ Fr [n, a] S S')
      (fun x S' => sevR D rows 0 = .error x ∧ ∃ a', DeskAt n a' D As m S' ∧ S.length ≤ a' ∧ Fr [n, a] S S') := by
  have h0 := h
  obtain ⟨t, kn, ls, hn, ht, ha, hls, hkn⟩ := h
  refine y_runX ?_
  show WS (b_Desk_several (call (k + 30)) [some (.loc n), some (.lst (rows.map RowX.u)), none, none, none, none, none, none] S) _
  unfold b_Desk_several
  refine w_seq (w_par3 (y_cons (y_get ?_)))
  walk_at "wp"
  refine ⟨n, _, _, rfl, hn, rfl, y_cons (y_get ?_)⟩
  walk_at "wp"
  refine ⟨n, _, _, rfl, hn, rfl, y_cons (y_locG (y_A (y_cons (y_get ?_))))⟩
  walk_at "wp"
  refine ⟨n, _, _, rfl, hn, rfl, ?_⟩
  walk_at "wp"
  refine Y.of (listC_locM ha) ?_
  intro c S1 ec hc1 l1 f1
  walk_at "wp"
  refine ⟨_, _, _, rfl, ?_⟩
  refine w_seq (w_set ?_)
  walk_at "wp"
  have h1 := h0.fr f1
  refine w_fin (w_seq (w_for (y_enumAX ?_)))
  walk_at "wp"
  refine ⟨_, rfl, ?_⟩
  refine (sev_loop (k := k) (R1 := some (.lst (rows.map RowX.u))) (T2 := some (.loc t)) (M3 := some (.int m)) (C4 := some (.loc c)) hw hws hl rows 0 none none hr h1 hD hlen).mono ?_ (fun _ _ q => q) (fun _ _ q => q) (fun _ _ q => q) ?_
  · rintro d' S2 ⟨y6, y7, L, rfl, e2, h2, f2⟩
    refine w_set ?_
    walk_at "wp"
    refine w_if ?_
    walk_at "wp"
    refine ite_b (fun z => by cases z) (fun _ => ?_)
    exact w_nop ⟨L, e2, h2, (f1.more (by simp)).trans f2⟩
  · rintro x d' S2 ⟨y6, y7, D', As', m', rfl, e2, h2, f2⟩
    obtain ⟨t', kn', ls', hn2, ht2, ha2, hls2, hkn2⟩ := h2
    refine w_if ?_
    walk_at "wp"
    refine ite_b (fun _ => ?_) (fun z => by cases z)
    have hlt : ∀ {j : Nat} {o : Ob}, S[j]? = some o → j < S.length := fun h => (List.getElem?_eq_some_iff.mp h).1
    have nn := hlt hn
    have na := hlt ha
    have nt := hlt ht
    have tn : t ≠ n := fun e => by rw [e, hn] at ht; cases ht
    have ta : t ≠ a := fun e => by rw [e, ha] at ht; cases ht
    have F2 : Fr [n, a] S S2 := (f1.more (by simp)).trans f2
    refine w_seq (w_putFQ (n := n) (fs := deskF (.loc t') (.loc a) m' (.loc kn')) rfl (by show 4 < 1000; decide) ?_)
    walk_at "wp"
    refine ⟨hn2, fun S3 h3 l3 f3 => ?_⟩
    rw [desk_there] at h3
    refine w_seq (w_putFQ (n := n) (fs := deskF (.loc t) (.loc a) m' (.loc kn')) rfl (by show 4 < 1000; decide) ?_)
    walk_at "wp"
    refine ⟨h3, fun S4 h4 l4 f4 => ?_⟩
    rw [desk_many] at h4
    refine w_seq (w_putFQ (n := n) (fs := deskF (.loc t) (.loc a) m (.loc kn')) rfl (by show 4 < 1000; decide) ?_)
    walk_at "wp"
    refine ⟨h4, fun S5 h5 l5 f5 => ?_⟩
    rw [desk_ahead] at h5
    have f25 : Fr [n] S2 S5 := f3.trans (f4.trans f5)
    have knn : kn' ≠ n := fun e => by rw [e, hn2] at hkn2; cases hkn2
    have hkn5 := f25.get hkn2 (by simpa using knn)
    refine w_expr (y_M (y_get ?_))
    walk_at "wp"
    refine ⟨n, _, _, rfl, h5, rfl, dict_ty (dict_loc hkn5), ?_⟩
    walk_at "wp"
    refine Y.of (show dclrM (.loc kn') [] S5 = .ok .non (S5.set kn' (.dic [] [])) from by
      unfold dclrM
      dsimp only
      rw [hkn5]) ?_
    rw [set_same hkn5]
    have F5 : Fr [n, a] S S5 := F2.trans (f25.more (by simp))
    refine ⟨e2, c, ⟨t, kn', ls, h5, F5.get ht (by simp [tn, ta]), ?_, hls.fr F5 fun l hl => ?_, hkn5⟩, by omega, F5⟩
    · have hc2 := f2.get hc1 (by simp only [List.mem_cons, List.mem_nil_iff, or_false]; omega)
      exact f25.get hc2 (by simp only [List.mem_cons, List.mem_nil_iff, or_false]; omega)
    · obtain ⟨D', q⟩ := hls.off hl
      have h1 : l ≠ n := fun e => by rw [e, hn] at q; cases q
      have h2 : l ≠ a := fun e => by rw [e, ha] at q; cases q
      simp [h1, h2]
end
def dkU (D : Dk) : U := .dic (dz (D.map (·.1))) (D.map dkv)
section
variable {S : Sto} {Q : U → Sto → Prop} {D : Dk} {l : Str}
theorem y_inDkV (q : Q (.bl (dkHas D l)) S) : Y (inU (.str l) (dkU D) S) Q := by
  have e : inB (.str l) (dkU D) S = some (dkHas D l) := by
    unfold dkU inB
    dsimp only
    rw [show dictOf (.dic (dz (D.map (·.1))) (D.map dkv)) S = some (dz (D.map (·.1)), D.map dkv) from rfl]
    show some (valU (dz (D.map (·.1))) (D.map dkv) (.inr l)).isSome = _
    rw [val_dk, Option.isSome_map, dkHas_some]
  unfold inU
  rw [e]
  exact ⟨q⟩
theorem y_ixDkV {p : Str × Str × U} (e : dkAt D l = some p) (q : Q (dkv p) S) : Y (ixU (dkU D) (.str l) S) Q := by
  refine y_ix (u := dkv p) ?_ q
  show valU (dz (D.map (·.1))) (D.map dkv) (.inr l) = _
  rw [val_dk, e]
  rfl
theorem drop_dk (l : Str) : ∀ D : Dk, dropU (dz (D.map (·.1))) (D.map dkv) (.inr l) = (dz ((dkDrop D l).map (·.1)), (dkDrop D l).map dkv)
  | [] => rfl
  | p :: D => by
    show (if (Sum.inr p.1 : Key) = .inr l then dropU (dz (D.map (·.1))) (D.map dkv) (.inr l) else (.inr p.1 :: (dropU (dz (D.map (·.1))) (D.map dkv) (.inr l)).1, dkv p :: (dropU (dz (D.map (·.1))) (D.map dkv) (.inr l)).2)) = _
    rw [drop_dk l D]
    by_cases e : p.1 = l
    · rw [if_pos (by rw [e]), show dkDrop (p :: D) l = dkDrop D l from by unfold dkDrop; rw [List.filter_cons, decide_eq_true e]; rfl]
    · rw [if_neg (fun z => e (Sum.inr.inj z)), show dkDrop (p :: D) l = p :: dkDrop D l from by unfold dkDrop; rw [List.filter_cons, decide_eq_false e]; rfl]
      rfl
end
theorem law_desk_row {k tp : Nat} {b : Int} {ws : List Str} {xs : List Say} {S : Sto} (t0 : Tape tp b S) (hb : b + 150 ≤ 2 ^ 100) (h0 : 0 < ws.length) (h1 : ws.length ≤ 7) (hx0 : 0 < xs.length) (hx1 : xs.length ≤ 6) (hx : ∀ x ∈ xs, x.On WB ∧ x.deep ≤ 6 ∧ x.parts ≤ 7) :
    Y (call (k + 2) i_law_desk_row [.loc tp, .lst (ws.map .str), .lst (xs.map Say.u)] S) fun u S' => ∃ r : Rw, u = r.u ∧ r.Ok ws ∧ Tape tp (b + 120) S' ∧ Fr [tp] S S' := by
  refine y_run ?_
  show WS (b_law_desk_row (call (k + 1)) [some (.loc tp), some (.lst (ws.map .str)), some (.lst (xs.map Say.u)), none, none] S) _
  unfold b_law_desk_row
  walk_at "wp"
  refine y_lenS ?_
  walk_at "wp"
  refine ⟨rfl, (draw t0 (by omega) (by omega) (by omega)).mono ?_⟩
  rintro _ S1 ⟨r1, rfl, r10, r11, t1, l1, f1⟩
  refine y_ixW r10 r11 fun w hw _ => ?_
  walk_at "wp"
  refine ⟨rfl, (draw t1 (by omega) (by first | decide | omega) (by first | decide | omega)).mono ?_⟩; rintro _ S2 ⟨r2, rfl, r20, r21, t2, l2, f2⟩
  walk_at "wp"
  refine w_if ?_
  walk_at "wp"
  refine ite_b (fun c => ?_) (fun c => ?_)
  · walk_at "wp"
    refine ⟨rfl, (draw t2 (by omega) (by first | decide | omega) (by first | decide | omega)).mono ?_⟩; rintro _ S3 ⟨r3, rfl, r30, r31, t3, l3, f3⟩
    have r31' : r3 = 0 ∨ r3 = 1 := by omega
    have es : ∃ sd : Str, ixB (.lst [.str "one", .str "other"]) (.int r3) S3 = some (.str sd) ∧ sideOk sd := by
      rcases r31' with rfl | rfl
      · exact ⟨"one", rfl, .inl rfl⟩
      · exact ⟨"other", rfl, .inr rfl⟩
    obtain ⟨sd, es, hsd⟩ := es
    refine y_ix es ?_
    walk_at "wp"
    refine y_lenL ?_
    rw [List.length_map]
    walk_at "wp"
    refine ⟨rfl, (draw t3 (by omega) (by omega) (by omega)).mono ?_⟩
    rintro _ S4 ⟨r4, rfl, r40, r41, t4, l4, f4⟩
    refine y_ixL r40 (by rw [List.length_map]; exact r41) fun u hu _ => ?_
    obtain ⟨x, hx', rfl⟩ := List.mem_map.mp hu
    walk_at "wp"
    obtain ⟨q1, q2, q3⟩ := hx x hx'
    exact ⟨.put w sd x, rfl, ⟨hw, hsd, q1, q2, q3⟩, t4.mono (by omega), f1.trans (f2.trans (f3.trans f4))⟩
  · have c := of_decide_eq_false c
    refine w_nop ?_
    walk_at "wp"
    have r23 : r2 - 3 = 0 ∨ r2 - 3 = 1 ∨ r2 - 3 = 2 := by omega
    rcases r23 with e | e | e <;> rw [e]
    · refine y_ix (u := .str "drop") rfl ?_
      walk_at "wp"
      exact ⟨.drop w, rfl, hw, t2.mono (by omega), f1.trans f2⟩
    · refine y_ix (u := .str "move") rfl ?_
      walk_at "wp"
      exact ⟨.move w, rfl, hw, t2.mono (by omega), f1.trans f2⟩
    · refine y_ix (u := .str "move") rfl ?_
      walk_at "wp"
      exact ⟨.move w, rfl, hw, t2.mono (by omega), f1.trans f2⟩
def aftU : Option Dk → U
  | none => .non
  | some E => dkU E
theorem dictC_dkV {D : Dk} {S : Sto} : dictC [dkU D] S = .ok (dz (D.map (·.1)), D.map dkv) S := rfl
theorem w_iceD2 {f : FE} {d : En} {S : Sto} {Q : U → Sto → Prop} (h : Y (f d S) fun u S1 => ∃ n ks us, u = .loc n ∧ S1[n]? = some (.dic ks us) ∧ Q (.dic ks us) (S1.set n .dead)) : Y (fIce f d S) Q := y_bind (h.mono fun u S1 ⟨n, ks, us, e, e2, h1⟩ => by
  subst e
  show Y (match S1[n]? with
    | some (.lst us) => R.ok (U.lst us) (S1.set n .dead)
    | some (.dic ks us) => R.ok (U.dic ks us) (S1.set n .dead)
    | _ => .bad) Q
  rw [e2]
  exact ⟨h1⟩)
theorem law_after {k : Nat} {ws : List Str} {D : Dk} {r : Rw} {S : Sto} (hD : DkOk ws D) (hr : r.Ok ws) (hw : ws.length ≤ 7) : Y (call (k + 1) i_law_after [dkU D, r.u] S) fun u S' => u = aftU (aft D r) ∧ Fr [] S S' := by
  have hl := hD.len
  refine y_run ?_
  show WS (b_law_after (call k) [some (dkU D), some r.u, none, none, none] S) _
  unfold b_law_after
  refine w_seq (w_set (y_dlocG ?_))
  walk_at "wp"
  refine Y.of dictC_dkV ?_
  intro u S1 eu hu1 l1 f1
  have hu1 : S1[u]? = some (dkO D) := hu1
  have hnew : S.length ≤ u := by omega
  cases r with
  | put l sd x =>
    refine w_seq (w_if ?_)
    walk_at "wp"
    refine y_ixT0 ?_
    walk_at "wp"
    refine y_ixT1 ?_
    walk_at "wp"
    refine y_inDkV ?_
    walk_at "wp"
    cases e : dkHas D l with
    | true =>
      refine ite_b (fun _ => ?_) (fun z => by cases z)
      walk_at "wp"
      exact ⟨by show _ = aftU (if dkHas D l = true then none else _); rw [if_pos e]; rfl, f1⟩
    | false =>
      refine ite_b (fun z => by cases z) (fun _ => ?_)
      refine w_nop (w_seq (w_if ?_))
      walk_at "wp"
      refine y_ixT0 ?_
      walk_at "wp"
      refine ite_b (fun _ => ?_) (fun z => by cases z)
      refine w_store ?_
      walk_at "wp"
      refine y_ix (u := .str sd) rfl ?_
      walk_at "wp"
      refine y_ix (u := x.u) rfl ?_
      walk_at "wp"
      refine y_ixT1 ?_
      refine ⟨_, st_dk (p := (l, sd, x.u)) hu1 (by rw [sizeL]; omega), ?_⟩
      rw [show dkPut D (l, sd, x.u) = D ++ [(l, sd, x.u)] from if_neg (by rw [e]; decide)]
      have hu2 : (S1.set u (dkO (D ++ [(l, sd, x.u)])))[u]? = some (.dic (dz ((D ++ [(l, sd, x.u)]).map (·.1))) ((D ++ [(l, sd, x.u)]).map dkv)) := List.getElem?_set_self (List.getElem?_eq_some_iff.mp hu1).1
      have f2 : Fr [u] S1 (S1.set u (dkO (D ++ [(l, sd, x.u)]))) := Fr.set (by simp)
      generalize S1.set u (dkO (D ++ [(l, sd, x.u)])) = S2 at hu2 f2 ⊢
      refine w_ret (w_iceD2 ?_)
      walk_at "wp"
      refine ⟨u, _, _, rfl, hu2, ?_⟩
      exact ⟨by show _ = aftU (if dkHas D l = true then none else _); rw [if_neg (by rw [e]; decide)]; rfl, (f1.thenNew f2 hnew).thenNew (Fr.set (ms := [u]) (by simp)) hnew⟩
  | drop l =>
    refine w_seq (w_if ?_)
    walk_at "wp"
    refine y_ixT0 ?_
    walk_at "wp"
    refine y_ixT1 ?_
    walk_at "wp"
    refine y_inDkV ?_
    walk_at "wp"
    cases e : dkHas D l with
    | false =>
      refine ite_b (fun _ => ?_) (fun z => by cases z)
      walk_at "wp"
      exact ⟨by show _ = aftU (if dkHas D l = true then _ else none); rw [if_neg (by rw [e]; decide)]; rfl, f1⟩
    | true =>
      refine ite_b (fun z => by cases z) (fun _ => ?_)
      refine w_nop (w_seq (w_if ?_))
      walk_at "wp"
      refine y_ixT0 ?_
      walk_at "wp"
      refine ite_b (fun z => by cases z) (fun _ => ?_)
      refine w_if ?_
      walk_at "wp"
      refine y_ixT0 ?_
      walk_at "wp"
      refine ite_b (fun _ => ?_) (fun z => by cases z)
      refine w_expr (y_M ?_)
      walk_at "wp"
      refine ⟨dict_ty (dict_loc hu1), ?_⟩
      walk_at "wp"
      refine y_ixT1 ?_
      walk_at "wp"
      obtain ⟨p, hp, hpl⟩ := dkAt_of e
      refine Y.of (show dpopM (.loc u) [.str l] S1 = .ok (dkv p) (S1.set u (.dic (dz ((dkDrop D l).map (·.1))) ((dkDrop D l).map dkv))) from by
        have hu1 : S1[u]? = some (.dic (dz (D.map (·.1))) (D.map dkv)) := hu1
        unfold dpopM
        simp only [hu1, keyU]
        rw [val_dk, hp]
        simp only [Option.map_some]
        rw [drop_dk]) ?_
      have hu2 : (S1.set u (.dic (dz ((dkDrop D l).map (·.1))) ((dkDrop D l).map dkv)))[u]? = some (.dic (dz ((dkDrop D l).map (·.1))) ((dkDrop D l).map dkv)) := List.getElem?_set_self (List.getElem?_eq_some_iff.mp hu1).1
      have f2 : Fr [u] S1 (S1.set u (.dic (dz ((dkDrop D l).map (·.1))) ((dkDrop D l).map dkv))) := Fr.set (by simp)
      generalize S1.set u (.dic (dz ((dkDrop D l).map (·.1))) ((dkDrop D l).map dkv)) = S2 at hu2 f2 ⊢
      refine w_ret (w_iceD2 ?_)
      walk_at "wp"
      refine ⟨u, _, _, rfl, hu2, ?_⟩
      exact ⟨by show _ = aftU (if dkHas D l = true then _ else none); rw [if_pos e]; rfl, (f1.thenNew f2 hnew).thenNew (Fr.set (ms := [u]) (by simp)) hnew⟩
  | move l =>
    refine w_seq (w_if ?_)
    walk_at "wp"
    refine y_ixT0 ?_
    walk_at "wp"
    refine y_ixT1 ?_
    walk_at "wp"
    refine y_inDkV ?_
    walk_at "wp"
    cases e : dkHas D l with
    | false =>
      refine ite_b (fun _ => ?_) (fun z => by cases z)
      walk_at "wp"
      have en : dkAt D l = none := by
        have := dkHas_some l D
        rw [e] at this
        cases h : dkAt D l with
        | none => rfl
        | some p => rw [h] at this; cases this
      exact ⟨by show _ = aftU ((dkAt D l).map _); rw [en]; rfl, f1⟩
    | true =>
      refine ite_b (fun z => by cases z) (fun _ => ?_)
      refine w_nop (w_seq (w_if ?_))
      walk_at "wp"
      refine y_ixT0 ?_
      walk_at "wp"
      refine ite_b (fun z => by cases z) (fun _ => ?_)
      refine w_if ?_
      walk_at "wp"
      refine y_ixT0 ?_
      walk_at "wp"
      refine ite_b (fun z => by cases z) (fun _ => ?_)
      obtain ⟨p, hp, hpl⟩ := dkAt_of e
      refine w_seq (w_asg ?_)
      walk_at "wp"
      refine y_ixT1 ?_
      refine y_ixDkV hp ?_
      refine ⟨_, rfl, ?_⟩
      refine w_store ?_
      refine y_tup (y_cons (y_if ?_))
      walk_at "wp"
      have fin : ∀ sd : Str, sd = sideN p.2.1 → ∃ S4, stU (.loc u) (.str l) (.tup [.str sd, p.2.2]) S1 = some S4 ∧ WS (fRet (fIce (fVar 2)) [some (dkU D), some (Rw.move l).u, some (.loc u), some (.str p.2.1), some p.2.2] S4) { nx := fun _ S1 => U.non = aftU (aft D (.move l)) ∧ Fr [] S S1, rt := fun u S' => u = aftU (aft D (.move l)) ∧ Fr [] S S' } := by
        rintro sd rfl
        refine ⟨_, st_dk (p := (l, sideN p.2.1, p.2.2)) hu1 (by rw [sizeL]; omega), ?_⟩
        have hu2 : (S1.set u (dkO (dkPut D (l, sideN p.2.1, p.2.2))))[u]? = some (.dic (dz ((dkPut D (l, sideN p.2.1, p.2.2)).map (·.1))) ((dkPut D (l, sideN p.2.1, p.2.2)).map dkv)) := List.getElem?_set_self (List.getElem?_eq_some_iff.mp hu1).1
        have f2 : Fr [u] S1 (S1.set u (dkO (dkPut D (l, sideN p.2.1, p.2.2)))) := Fr.set (by simp)
        generalize S1.set u (dkO (dkPut D (l, sideN p.2.1, p.2.2))) = S2 at hu2 f2 ⊢
        refine w_ret (w_iceD2 ?_)
        walk_at "wp"
        refine ⟨u, _, _, rfl, hu2, ?_⟩
        exact ⟨by show _ = aftU ((dkAt D l).map _); rw [hp]; rfl, (f1.thenNew f2 hnew).thenNew (Fr.set (ms := [u]) (by simp)) hnew⟩
      refine ite_b (fun c => ?_) (fun c => ?_)
      · have c := of_decide_eq_true c
        walk_at "wp"
        refine y_ixT1 ?_
        exact fin "one" (by unfold sideN; rw [if_pos c])
      · have c := of_decide_eq_false c
        walk_at "wp"
        refine y_ixT1 ?_
        exact fin "other" (by unfold sideN; rw [if_neg c])
theorem inB_list {x : U} {us : List U} {d : PyData} {ds : List PyData} {S : Sto} (hx : flatU x = false) (h0 : toDS x S = some d) (h1 : toDs us = some ds) (s0 : SeqAt.shaped d = true) (s1 : SeqAt.shaped (.list ds) = true) : inB x (.lst us) S = some (ds.any fun z => PyData.eqv z d) := by
  have e1 : toDS (.lst us) S = some (.list ds) := by
    show toD (.lst us) = _
    unfold toD
    rw [h1]
    rfl
  have e2 : flatL x (.lst us) S = none := by
    unfold flatL
    cases DL.listOf (.lst us) S with
    | none => rfl
    | some vs =>
      dsimp only
      rw [hx, Bool.false_and]
      rfl
  unfold inB
  dsimp only
  rw [show dictOf (.lst us) S = none from rfl]
  dsimp only
  rw [e2]
  dsimp only
  rw [h0, e1]
  dsimp only
  rw [s0, s1]
  rfl
def headB : List U → Bool
  | .str z :: _ => decide (z = "put") || (decide (z = "drop") || decide (z = "move"))
  | _ => false
theorem y_ninHead {us : List U} {S : Sto} {Q : U → Sto → Prop} (h : us = [] ∨ ∃ z r, us = .str z :: r ∧ PyData.strOk z = true) (q : Q (.bl (!headB us)) S) : Y (ninU (.tup (cutU us none (some 1))) (.lst [.tup [.str "put"], .tup [.str "drop"], .tup [.str "move"]]) S) Q := by
  have s1 : SeqAt.shaped (.list [.tuple [.str "put"], .tuple [.str "drop"], .tuple [.str "move"]]) = true := by decide +kernel
  rcases h with rfl | ⟨z, r, rfl, hz⟩
  · have e := inB_list (x := .tup []) (d := .tuple []) (S := S) (us := [.tup [.str "put"], .tup [.str "drop"], .tup [.str "move"]]) rfl rfl rfl (by decide +kernel) s1
    rw [show cutU ([] : List U) none (some 1) = [] from rfl]
    unfold ninU
    rw [e]
    simp only [List.any_cons, List.any_nil, eqv_tup, eqv_cn, Bool.or_self]
    exact ⟨q⟩
  · have e := inB_list (x := .tup [.str z]) (d := .tuple [.str z]) (S := S) (us := [.tup [.str "put"], .tup [.str "drop"], .tup [.str "move"]]) rfl rfl rfl (by
      unfold SeqAt.shaped
      rw [show PyData.canLay0 (.tuple [.str z]) = PyData.strOk z from by simp [PyData.canLay0, PyData.canLayAll0], hz]
      simp [PyData.depth, PyData.depthAll]) s1
    rw [show cutU (.str z :: r) none (some 1) = [.str z] from cut_pre (.str z :: r) 1]
    unfold ninU
    rw [e]
    simp only [List.any_cons, List.any_nil, eqv_tup, PySem.W.eqv_all_cons, eqv_str, eqv_nil, Bool.and_true, Bool.or_false]
    rw [show (decide (("put" : Str) = z) || (decide (("drop" : Str) = z) || decide (("move" : Str) = z))) = headB (.str z :: r) from by
      show _ = (decide (z = "put") || (decide (z = "drop") || decide (z = "move")))
      rw [decide_eq_decide.mpr (eq_comm (a := ("put" : Str)) (b := z)), decide_eq_decide.mpr (eq_comm (a := ("drop" : Str)) (b := z)), decide_eq_decide.mpr (eq_comm (a := ("move" : Str)) (b := z))]]
    exact ⟨q⟩
def oddD : List PyData := [.tuple [.str "name", .str "or"], .tuple [], .tuple [.str "and", .tuple [.str "yes"]]]
def oddU : List U := [.tup [.str "name", .str "or"], .tup [], .tup [.str "and", .tup [.str "yes"]]]
theorem odd_D : toDs oddU = some oddD := rfl
theorem odd_shaped : SeqAt.shaped (.list oddD) = true := by decide +kernel
def isOdd (d : PyData) : Bool := oddD.any fun z => PyData.eqv z d
theorem y_ninOdd {us : List U} {d : PyData} {S : Sto} {Q : U → Sto → Prop} (h0 : toD (.tup us) = some d) (s0 : SeqAt.shaped d = true) (q : Q (.bl (!isOdd d)) S) : Y (ninU (.tup us) (.lst oddU) S) Q := by
  unfold ninU
  rw [inB_list (x := .tup us) rfl (toDS_toD h0) odd_D s0 odd_shaped]
  exact ⟨q⟩
theorem odd_say {x : Say} (h : x.On WB) : isOdd (sayD x) = false := by
  have w1 : ¬ WB "or" := fun h => by
    have := (wb_ok h).2.2.2
    exact this (by decide +kernel)
  unfold isOdd oddD
  simp only [List.any_cons, List.any_nil, Bool.or_false]
  rw [show (PyData.tuple [.str "name", .str "or"]) = sayD (.name "or") from rfl, say_eqv]
  have e1 : decide (Say.name "or" = x) = false := decide_eq_false fun e => by subst e; exact w1 h
  rw [e1]
  have d1 : ¬ (("and" : Str) = "not") := by decide
  have d2 : ¬ (("and" : Str) = "name") := by decide
  have d3 : ¬ (("and" : Str) = "yes") := by decide
  have d4 : ¬ (("and" : Str) = "no") := by decide
  cases x <;> simp [sayD, eqv_tup, PySem.W.eqv_all_cons, eqv_str, eqv_nil, eqv_nc, eqv_cn, d1, d2, d3, d4]
theorem odd_1 : isOdd (.tuple [.str "name", .str "or"]) = true := by
  unfold isOdd oddD
  simp [eqv_tup, PySem.W.eqv_all_cons, eqv_str, eqv_nil, eqv_nc, eqv_cn]
theorem odd_2 : isOdd (.tuple []) = true := by
  unfold isOdd oddD
  simp [eqv_tup, PySem.W.eqv_all_cons, eqv_str, eqv_nil, eqv_nc, eqv_cn]
theorem odd_3 : isOdd (.tuple [.str "and", .tuple [.str "yes"]]) = true := by
  unfold isOdd oddD
  simp [eqv_tup, PySem.W.eqv_all_cons, eqv_str, eqv_nil, eqv_nc, eqv_cn]
theorem y_in7 {ws : List Str} {S : Sto} {Q : U → Sto → Prop} (h : Q (.bl false) S) : Y (inU (.int 7) (.lst (ws.map .str)) S) Q := by
  have e : inB (.int 7) (.lst (ws.map .str)) S = some false := by
    unfold inB
    dsimp only
    rw [show dictOf (.lst (ws.map .str)) S = none from rfl]
    dsimp only
    unfold flatL
    rw [show DL.listOf (.lst (ws.map .str)) S = some (ws.map .str) from rfl]
    dsimp only
    rw [all_flat, show flatU (.int 7) = true from rfl]
    simp only [Bool.and_self, if_true]
    have : ((ws.map U.str).any fun z => eqF z (.int 7)) = false := by
      rw [List.any_eq_false]
      intro z hz e
      obtain ⟨w, _, rfl⟩ := List.mem_map.mp hz
      cases e
    rw [this]
  unfold inU
  rw [e]
  exact ⟨h⟩
def inW (ws : List Str) : U → Bool
  | .str w => decide (w ∈ ws)
  | _ => false
def wellB : U → Bool
  | .tup us => match toD (.tup us) with
    | some d => !isOdd d
    | none => false
  | _ => false
def goodB (ws : List Str) (z : Str) : List U → Bool
  | [w] => decide (z ≠ "put") && inW ws w
  | [w, s, x] => decide (z = "put") && (inW ws w && (sideB s && wellB x))
  | _ => false
def Seen (rest : List U) : Prop := (∀ w r, rest = w :: r → (∃ z, w = .str z) ∨ w = .int 7) ∧ ∀ w s x, rest = [w, s, x] → ((∃ z, s = .str z) ∨ s = .non) ∧ ((∃ z, x = .str z) ∨ ∃ us d, x = .tup us ∧ toD (.tup us) = some d ∧ SeqAt.shaped d = true)
theorem y_inW {ws : List Str} {w : U} {S : Sto} {Q : U → Sto → Prop} (h : (∃ z, w = .str z) ∨ w = .int 7) (q : Q (.bl (inW ws w)) S) : Y (inU w (.lst (ws.map .str)) S) Q := by
  rcases h with ⟨z, rfl⟩ | rfl
  · exact y_inV q
  · exact y_in7 q
theorem y_inSide {s : U} {S : Sto} {Q : U → Sto → Prop} (h : (∃ z, s = .str z) ∨ s = .non) (q : Q (.bl (sideB s)) S) : Y (inU s (.tup [.str "one", .str "other"]) S) Q := by
  rcases h with ⟨z, rfl⟩ | rfl
  · refine y_inT ["one", "other"] rfl ?_
    rw [show decide (z ∈ (["one", "other"] : List Str)) = sideB (.str z) from by
      show _ = (decide (z = "one") || decide (z = "other"))
      by_cases h1 : z = "one" <;> by_cases h2 : z = "other" <;> simp [h1, h2]]
    exact q
  · exact ⟨q⟩
section
variable {k : Nat} {ws : List Str} {x0 x2 x3 x4 x5 x6 x8 x9 x10 : Option U} {S : Sto} {DD : EU}
theorem good_part {z : Str} {rest : List U} (hz : headB (.str z :: rest) = true) (hs : Seen rest)
    (h : WS ((fun (c : Nat → List U → Sto → R U) => ((fSeq (fIfS (fNot (fTru (fVar 8))) (fRet (fTup (aCons (fVar 4) (aCons (fVal (aLst aNil)) (aCons (fTup (aCons (fC (.str "row")) (aCons (fVar 6) aNil))) aNil))))) fNop)
    (fSeq (fSet 9 (fCall 2 (c i_law_after) (aCons (f2 ixU (fVar 5) (f1 negU (fC (.int 1)))) (aCons (fVar 7) aNil))))
    (fSeq (fIfS (fB (f2 isU (fVar 9) (fC .non))) (fRet (fTup (aCons (fVar 4) (aCons (fVal (aLst aNil)) (aCons (fTup (aCons (fC (.str "label")) (aCons (f2 ixU (fVar 7) (fC (.int 1))) aNil))) aNil))))) fNop)
    (fExpr (fM "list" appM (fVar 5) (aCons (fVar 9) aNil)))))) : FS)) (call k) [x0, some (.lst (ws.map .str)), x2, x3, x4, x5, x6, some (.tup (.str z :: rest)), some (.bl (goodB ws z rest)), x9, x10] S) DD) :
    WS ((fun (c : Nat → List U → Sto → R U) => ((fSeq (fSet 8 (fAndV (f2 eqU (fA lenC (aCons (fVar 7) aNil)) (fIf (fB (f2 eqU (f2 ixU (fVar 7) (fC (.int 0))) (fC (.str "put")))) (fC (.int 4)) (fC (.int 2)))) (f2 inU (f2 ixU (fVar 7) (fC (.int 1))) (fVar 1))))
    (fSeq (fIfS (fAnd (fTru (fVar 8)) (fB (f2 eqU (f2 ixU (fVar 7) (fC (.int 0))) (fC (.str "put"))))) (fSeq (fSet 8 (fAndV (f2 inU (f2 ixU (fVar 7) (fC (.int 2))) (fTup (aCons (fC (.str "one")) (aCons (fC (.str "other")) aNil)))) (fA isiC (aCons (f2 ixU (fVar 7) (fC (.int 3))) (aCons (fC (.ty "tuple")) aNil)))))
    (fSet 8 (fAndV (fVar 8) (f2 ninU (f2 ixU (fVar 7) (fC (.int 3))) (fVal (aLst (aCons (fTup (aCons (fC (.str "name")) (aCons (fC (.str "or")) aNil))) (aCons (fTup aNil) (aCons (fTup (aCons (fC (.str "and")) (aCons (fTup (aCons (fC (.str "yes")) aNil)) aNil))) aNil))))))))) fNop)
    (fSeq (fIfS (fNot (fTru (fVar 8))) (fRet (fTup (aCons (fVar 4) (aCons (fVal (aLst aNil)) (aCons (fTup (aCons (fC (.str "row")) (aCons (fVar 6) aNil))) aNil))))) fNop)
    (fSeq (fSet 9 (fCall 2 (c i_law_after) (aCons (f2 ixU (fVar 5) (f1 negU (fC (.int 1)))) (aCons (fVar 7) aNil))))
    (fSeq (fIfS (fB (f2 isU (fVar 9) (fC .non))) (fRet (fTup (aCons (fVar 4) (aCons (fVal (aLst aNil)) (aCons (fTup (aCons (fC (.str "label")) (aCons (f2 ixU (fVar 7) (fC (.int 1))) aNil))) aNil))))) fNop)
    (fExpr (fM "list" appM (fVar 5) (aCons (fVar 9) aNil)))))))) : FS)) (call k) [x0, some (.lst (ws.map .str)), x2, x3, x4, x5, x6, some (.tup (.str z :: rest)), x8, x9, x10] S) DD := by
  have hz' : z = "put" ∨ z = "drop" ∨ z = "move" := by
    have hz : (decide (z = "put") || (decide (z = "drop") || decide (z = "move"))) = true := hz
    simpa using hz
  obtain ⟨s1, s2⟩ := hs
  dsimp only at h ⊢
  -- the length, the label
  have first : ∀ {b : Bool} {D2 : EU}, (b = true → (z = "put" ∧ ∃ w s x, rest = [w, s, x] ∧ inW ws w = true) ∨ (z ≠ "put" ∧ ∃ w, rest = [w] ∧ inW ws w = true)) → True := fun _ => trivial
  by_cases hp : z = "put"
  · subst hp
    by_cases h3 : ∃ w s x, rest = [w, s, x]
    · obtain ⟨w, s, x, rfl⟩ := h3
      obtain ⟨t1, t2⟩ := s2 w s x rfl
      refine w_seq (w_set (y_andV ?_))
      walk_at "wp"
      refine y_lenT ?_
      refine y_if ?_
      walk_at "wp"
      refine y_ixT0 ?_
      walk_at "wp"
      refine ite_b (fun _ => ?_) (fun z => by cases z)
      walk_at "wp"
      refine ite_b (fun _ => ?_) (fun z => by cases z)
      walk_at "wp"
      refine y_ixT1 ?_
      walk_at "wp"
      refine y_inW (s1 w _ rfl) ?_
      cases e1 : inW ws w with
      | false =>
        refine w_seq (w_if ?_)
        walk_at "wp"
        refine ite_b (fun z => by cases z) (fun _ => ?_)
        refine ite_b (fun z => by cases z) (fun _ => ?_)
        refine w_nop ?_
        have eg : goodB ws "put" [w, s, x] = false := by
          show (decide (("put" : Str) = "put") && (inW ws w && (sideB s && wellB x))) = false
          rw [e1]; rfl
        rw [eg] at h
        exact h
      | true =>
        refine w_seq (w_if ?_)
        walk_at "wp"
        refine ite_b (fun _ => ?_) (fun z => by cases z)
        walk_at "wp"
        refine y_ixT0 ?_
        walk_at "wp"
        refine ite_b (fun _ => ?_) (fun z => by cases z)
        have eg : goodB ws "put" [w, s, x] = (sideB s && wellB x) := by
          show (decide (("put" : Str) = "put") && (inW ws w && (sideB s && wellB x))) = _
          rw [e1]; rfl
        rw [eg] at h
        refine w_seq (w_set (y_andV ?_))
        walk_at "wp"
        refine y_ix (u := s) rfl ?_
        walk_at "wp"
        refine y_inSide t1 ?_
        cases e2 : sideB s with
        | false =>
          rw [e2] at h
          walk_at "wp"
          refine ite_b (fun z => by cases z) (fun _ => ?_)
          walk_at "wp"
          refine ite_b (fun z => by cases z) (fun _ => ?_)
          exact h
        | true =>
          rw [e2, Bool.true_and] at h
          walk_at "wp"
          refine ite_b (fun _ => ?_) (fun z => by cases z)
          walk_at "wp"
          refine y_ix (u := x) rfl ?_
          walk_at "wp"
          rcases t2 with ⟨y, rfl⟩ | ⟨us, d, rfl, h0, s0⟩
          · refine Y.of (show isiC [.str y, .ty "tuple"] S = .ok (.bl false) S from rfl) ?_
            walk_at "wp"
            refine ite_b (fun z => by cases z) (fun _ => ?_)
            exact h
          · refine Y.of (show isiC [.tup us, .ty "tuple"] S = .ok (.bl true) S from rfl) ?_
            walk_at "wp"
            refine ite_b (fun _ => ?_) (fun z => by cases z)
            walk_at "wp"
            refine y_ix (u := .tup us) rfl ?_
            walk_at "wp"
            refine y_ninOdd h0 s0 ?_
            have ew : wellB (.tup us) = !isOdd d := by unfold wellB; dsimp only; rw [h0]
            rw [ew] at h
            exact h
    · have eg : goodB ws "put" rest = false := by
        unfold goodB
        split
        · exact rfl
        · rename_i w s x
          exact absurd ⟨w, s, x, rfl⟩ h3
        · rfl
      rw [eg] at h
      refine w_seq (w_set (y_andV ?_))
      walk_at "wp"
      refine y_lenT ?_
      refine y_if ?_
      walk_at "wp"
      refine y_ixT0 ?_
      walk_at "wp"
      refine ite_b (fun _ => ?_) (fun z => by cases z)
      walk_at "wp"
      refine ite_b (fun c => ?_) (fun c => ?_)
      · have c := of_decide_eq_true c
        rw [List.length_cons] at c
        refine absurd ?_ h3
        cases rest with
        | nil => simp at c
        | cons w r => cases r with
          | nil => simp at c
          | cons s r => cases r with
            | nil => simp at c
            | cons x r => cases r with
              | nil => exact ⟨w, s, x, rfl⟩
              | cons y r => simp at c; omega
      · rw [c]
        refine w_seq (w_if ?_)
        walk_at "wp"
        refine ite_b (fun z => by cases z) (fun _ => ?_)
        refine ite_b (fun z => by cases z) (fun _ => ?_)
        exact w_nop h
  · by_cases h1 : ∃ w, rest = [w]
    · obtain ⟨w, rfl⟩ := h1
      have eg : goodB ws z [w] = inW ws w := by
        show (decide (z ≠ "put") && inW ws w) = _
        rw [decide_eq_true hp, Bool.true_and]
      rw [eg] at h
      refine w_seq (w_set (y_andV ?_))
      walk_at "wp"
      refine y_lenT ?_
      refine y_if ?_
      walk_at "wp"
      refine y_ixT0 ?_
      walk_at "wp"
      rw [decide_eq_false hp]
      refine ite_b (fun z => by cases z) (fun _ => ?_)
      walk_at "wp"
      refine ite_b (fun _ => ?_) (fun z => by cases z)
      walk_at "wp"
      refine y_ixT1 ?_
      walk_at "wp"
      refine y_inW (s1 w _ rfl) ?_
      refine w_seq (w_if ?_)
      walk_at "wp"
      cases e1 : inW ws w with
      | false =>
        rw [e1] at h
        refine ite_b (fun z => by cases z) (fun _ => ?_)
        refine ite_b (fun z => by cases z) (fun _ => ?_)
        exact w_nop h
      | true =>
        rw [e1] at h
        refine ite_b (fun _ => ?_) (fun z => by cases z)
        walk_at "wp"
        refine y_ixT0 ?_
        walk_at "wp"
        rw [decide_eq_false hp]
        refine ite_b (fun z => by cases z) (fun _ => ?_)
        exact w_nop h
    · have eg : goodB ws z rest = false := by
        unfold goodB
        split
        · rename_i w
          exact absurd ⟨w, rfl⟩ h1
        · rw [decide_eq_false hp]; rfl
        · rfl
      rw [eg] at h
      refine w_seq (w_set (y_andV ?_))
      walk_at "wp"
      refine y_lenT ?_
      refine y_if ?_
      walk_at "wp"
      refine y_ixT0 ?_
      walk_at "wp"
      rw [decide_eq_false hp]
      refine ite_b (fun z => by cases z) (fun _ => ?_)
      walk_at "wp"
      refine ite_b (fun c => ?_) (fun c => ?_)
      · have c := of_decide_eq_true c
        rw [List.length_cons] at c
        refine absurd ?_ h1
        cases rest with
        | nil => simp at c
        | cons w r => cases r with
          | nil => exact ⟨w, rfl⟩
          | cons s r => simp at c; omega
      · rw [c]
        refine w_seq (w_if ?_)
        walk_at "wp"
        refine ite_b (fun z => by cases z) (fun _ => ?_)
        refine ite_b (fun z => by cases z) (fun _ => ?_)
        exact w_nop h
end
def dueU : Option Exc → U
  | none => .non
  | some x => .tup [.str x.fld, x.arg]
theorem bad_cases {ws : List Str} {l : Str} {u : U} (hw : ∀ w ∈ ws, WB w) (hl : WB l) (h : u ∈ badL l) :
    isTup u = false ∨ ∃ us, u = .tup us ∧ (((us = [] ∨ ∃ z r, us = .str z :: r ∧ PyData.strOk z = true) ∧ headB us = false) ∨ ∃ z rest, us = .str z :: rest ∧ PyData.strOk z = true ∧ headB us = true ∧ Seen rest ∧ goodB ws z rest = false) := by
  have noA : ("A" : Str) ∉ ws := fun h => by have := (wb_ok (hw _ h)).2.2.1; exact absurd this (by decide +kernel)
  have noN : ("not" : Str) ∉ ws := fun h => (wb_ok (hw _ h)).2.2.2 (by decide +kernel)
  have sp : PyData.strOk "put" = true := by decide +kernel
  have sd : PyData.strOk "drop" = true := by decide +kernel
  have sm : PyData.strOk "move" = true := by decide +kernel
  have seen1 : ∀ z : Str, Seen [.str z] := fun z => ⟨fun w r e => (by cases e; exact .inl ⟨_, rfl⟩), fun w s x e => by cases e⟩
  have seen0 : Seen [] := ⟨fun w r e => (by cases e), fun w s x e => by cases e⟩
  have seen7 : Seen [.int 7] := ⟨fun w r e => (by cases e; exact .inr rfl), fun w s x e => by cases e⟩
  have seen2 : ∀ z y : Str, Seen [.str z, .str y] := fun z y => ⟨fun w r e => (by cases e; exact .inl ⟨_, rfl⟩), fun w s x e => by cases e⟩
  have seenS : ∀ z y x : Str, Seen [.str z, .str y, .str x] := fun z y x => ⟨fun w r e => (by cases e; exact .inl ⟨_, rfl⟩), fun w s x e => by cases e; exact ⟨.inl ⟨_, rfl⟩, .inl ⟨_, rfl⟩⟩⟩
  have seenT : ∀ (z y : Str) (us : List U) (d : PyData), toD (.tup us) = some d → SeqAt.shaped d = true → Seen [.str z, .str y, .tup us] := fun z y us d h0 s0 => ⟨fun w r e => (by cases e; exact .inl ⟨_, rfl⟩), fun w s x e => by cases e; exact ⟨.inl ⟨_, rfl⟩, .inr ⟨us, d, rfl, h0, s0⟩⟩⟩
  have seenN : ∀ (z : Str) (us : List U) (d : PyData), toD (.tup us) = some d → SeqAt.shaped d = true → Seen [.str z, .non, .tup us] := fun z us d h0 s0 => ⟨fun w r e => (by cases e; exact .inl ⟨_, rfl⟩), fun w s x e => by cases e; exact ⟨.inr rfl, .inr ⟨us, d, rfl, h0, s0⟩⟩⟩
  have seen4 : ∀ (z y : Str) (a b : U), Seen [.str z, .str y, a, b] := fun z y a b => ⟨fun w r e => (by cases e; exact .inl ⟨_, rfl⟩), fun w s x e => by cases e⟩
  have dy : toD (.tup [.str "yes"]) = some (.tuple [.str "yes"]) := rfl
  have sy : SeqAt.shaped (.tuple [.str "yes"]) = true := by decide +kernel
  have hp : ∀ r : List U, headB (.str "put" :: r) = true := fun r => rfl
  have hd : ∀ r : List U, headB (.str "drop" :: r) = true := fun r => by
    show (decide (("drop" : Str) = "put") || (decide (("drop" : Str) = "drop") || decide (("drop" : Str) = "move"))) = true
    decide +kernel
  have hm : ∀ r : List U, headB (.str "move" :: r) = true := fun r => by
    show (decide (("move" : Str) = "put") || (decide (("move" : Str) = "drop") || decide (("move" : Str) = "move"))) = true
    decide +kernel
  have wA : inW ws (.str "A") = false := decide_eq_false noA
  have wN : inW ws (.str "not") = false := decide_eq_false noN
  have gS : ∀ (w s x : U), inW ws w = false ∨ sideB s = false ∨ wellB x = false → goodB ws "put" [w, s, x] = false := fun w s x h => by
    show (decide (("put" : Str) = "put") && (inW ws w && (sideB s && wellB x))) = false
    rcases h with h | h | h <;> rw [h] <;> simp
  have wo : ∀ (us : List U) (d : PyData), toD (.tup us) = some d → isOdd d = true → wellB (.tup us) = false := fun us d h0 h1 => by
    unfold wellB
    dsimp only
    rw [h0]
    dsimp only
    rw [h1]
    rfl
  unfold badL at h
  simp only [List.mem_cons, List.mem_nil_iff, or_false] at h
  rcases h with rfl | rfl | rfl | rfl | rfl | rfl | rfl | rfl | rfl | rfl | rfl | rfl | rfl | rfl | rfl | rfl | rfl | rfl | rfl | rfl
  · exact .inr ⟨_, rfl, .inr ⟨_, _, rfl, sp, hp _, seen2 _ _, rfl⟩⟩
  · exact .inr ⟨_, rfl, .inr ⟨_, _, rfl, sp, hp _, seenT _ _ _ _ dy sy, gS _ _ _ (.inr (.inl (by decide +kernel)))⟩⟩
  · exact .inr ⟨_, rfl, .inr ⟨_, _, rfl, sp, hp _, seenS _ _ _, gS _ _ _ (.inr (.inr rfl))⟩⟩
  · exact .inr ⟨_, rfl, .inr ⟨_, _, rfl, sd, hd _, seen0, rfl⟩⟩
  · exact .inr ⟨_, rfl, .inr ⟨_, _, rfl, sd, hd _, seen1 _, by show (decide (("drop" : Str) ≠ "put") && inW ws (.str "A")) = false; rw [wA, Bool.and_false]⟩⟩
  · exact .inr ⟨_, rfl, .inr ⟨_, _, rfl, sm, hm _, seen2 _ _, rfl⟩⟩
  · exact .inl rfl
  · exact .inr ⟨_, rfl, .inl ⟨.inr ⟨_, _, rfl, by decide +kernel⟩, by show (decide (("undo" : Str) = "put") || (decide (("undo" : Str) = "drop") || decide (("undo" : Str) = "move"))) = false; decide +kernel⟩⟩
  · exact .inr ⟨_, rfl, .inl ⟨.inl rfl, rfl⟩⟩
  · exact .inl rfl
  · exact .inl rfl
  · exact .inl rfl
  · exact .inr ⟨_, rfl, .inr ⟨_, _, rfl, sd, hd _, seen7, by show (decide (("drop" : Str) ≠ "put") && inW ws (.int 7)) = false; exact Bool.and_false _⟩⟩
  · exact .inr ⟨_, rfl, .inl ⟨.inr ⟨_, _, rfl, by decide +kernel⟩, by show (decide (("Drop" : Str) = "put") || (decide (("Drop" : Str) = "drop") || decide (("Drop" : Str) = "move"))) = false; decide +kernel⟩⟩
  · exact .inr ⟨_, rfl, .inr ⟨_, _, rfl, sp, hp _, seenT _ _ _ _ rfl (by decide +kernel), gS _ _ _ (.inr (.inr (wo _ _ rfl odd_1)))⟩⟩
  · exact .inr ⟨_, rfl, .inr ⟨_, _, rfl, sp, hp _, seenT _ _ _ _ rfl (by decide +kernel), gS _ _ _ (.inr (.inr (wo _ _ rfl odd_2)))⟩⟩
  · exact .inr ⟨_, rfl, .inr ⟨_, _, rfl, sp, hp _, seenT _ _ _ _ rfl (by decide +kernel), gS _ _ _ (.inr (.inr (wo _ _ rfl odd_3)))⟩⟩
  · exact .inr ⟨_, rfl, .inr ⟨_, _, rfl, sp, hp _, seen4 _ _ _ _, rfl⟩⟩
  · exact .inr ⟨_, rfl, .inr ⟨_, _, rfl, sp, hp _, seenT _ _ _ _ dy sy, gS _ _ _ (.inl wN)⟩⟩
  · exact .inr ⟨_, rfl, .inr ⟨_, _, rfl, sp, hp _, seenN _ _ _ dy sy, gS _ _ _ (.inr (.inl rfl))⟩⟩
theorem good_seen {ws : List Str} {r : Rw} (h : r.Ok ws) (hw : ∀ w ∈ ws, WB w) : ∃ z rest, r.u = .tup (.str z :: rest) ∧ PyData.strOk z = true ∧ headB (.str z :: rest) = true ∧ Seen rest ∧ goodB ws z rest = true ∧ rest[0]? = some (.str r.lab) := by
  cases r with
  | put l sd x =>
    obtain ⟨h1, h2, h3, h4, h5⟩ := h
    have hx : SOk x := ⟨h3.mono fun w h => wb_str h, by omega⟩
    have ex : ∃ us, x.u = .tup us := by cases x <;> exact ⟨_, rfl⟩
    obtain ⟨us, eu⟩ := ex
    have hD := say_D x
    rw [eu] at hD
    refine ⟨"put", [.str l, .str sd, x.u], rfl, by decide +kernel, rfl, ⟨fun w r e => (by cases e; exact .inl ⟨_, rfl⟩), fun w s y e => ?_⟩, ?_, rfl⟩
    · cases e
      exact ⟨.inl ⟨_, rfl⟩, .inr ⟨us, _, eu, hD, say_shaped hx⟩⟩
    · show (decide (("put" : Str) = "put") && (decide (l ∈ ws) && (sideB (.str sd) && wellB x.u))) = true
      rw [decide_eq_true rfl, decide_eq_true h1, show sideB (.str sd) = true by rcases h2 with rfl | rfl <;> decide +kernel, eu]
      unfold wellB
      dsimp only
      rw [hD]
      dsimp only
      rw [odd_say h3]
      rfl
  | drop l => exact ⟨"drop", [.str l], rfl, by decide +kernel, by show (decide (("drop" : Str) = "put") || (decide (("drop" : Str) = "drop") || decide (("drop" : Str) = "move"))) = true; decide +kernel, ⟨fun w r e => (by cases e; exact .inl ⟨_, rfl⟩), fun w s x e => by cases e⟩, by show (decide (("drop" : Str) ≠ "put") && decide (l ∈ ws)) = true; rw [decide_eq_true (show l ∈ ws from h)]; decide +kernel, rfl⟩
  | move l => exact ⟨"move", [.str l], rfl, by decide +kernel, by show (decide (("move" : Str) = "put") || (decide (("move" : Str) = "drop") || decide (("move" : Str) = "move"))) = true; decide +kernel, ⟨fun w r e => (by cases e; exact .inl ⟨_, rfl⟩), fun w s x e => by cases e⟩, by show (decide (("move" : Str) ≠ "put") && decide (l ∈ ws)) = true; rw [decide_eq_true (show l ∈ ws from h)]; decide +kernel, rfl⟩
def refU (all : List U) (x : Exc) : U := .tup [.lst all, .lst [], dueU (some x)]
section
variable {k : Nat} {ws : List Str} {l : Str} {x0 x2 x3 x8 x9 x10 : Option U} {S : Sto} {DD : EU} {s5 i : Nat} {all : List U}
theorem turn_bad {u : U} (hw : ∀ w ∈ ws, WB w) (hl : WB l) (h : u ∈ badL l) (q : DD.rt (refU all (noRow i)) S) :
    WS ((fun (c : Nat → List U → Sto → R U) => ((fSeq (fIfS (fOr (fNot (fTru (fA isiC (aCons (fVar 7) (aCons (fC (.ty "tuple")) aNil))))) (fB (f2 ninU (fSl (fVar 7) oNone (oSome (fC (.int 1)))) (fVal (aLst (aCons (fTup (aCons (fC (.str "put")) aNil)) (aCons (fTup (aCons (fC (.str "drop")) aNil)) (aCons (fTup (aCons (fC (.str "move")) aNil)) aNil)))))))) (fRet (fTup (aCons (fVar 4) (aCons (fVal (aLst aNil)) (aCons (fTup (aCons (fC (.str "row")) (aCons (fVar 6) aNil))) aNil))))) fNop)
    (fSeq (fSet 8 (fAndV (f2 eqU (fA lenC (aCons (fVar 7) aNil)) (fIf (fB (f2 eqU (f2 ixU (fVar 7) (fC (.int 0))) (fC (.str "put")))) (fC (.int 4)) (fC (.int 2)))) (f2 inU (f2 ixU (fVar 7) (fC (.int 1))) (fVar 1))))
    (fSeq (fIfS (fAnd (fTru (fVar 8)) (fB (f2 eqU (f2 ixU (fVar 7) (fC (.int 0))) (fC (.str "put"))))) (fSeq (fSet 8 (fAndV (f2 inU (f2 ixU (fVar 7) (fC (.int 2))) (fTup (aCons (fC (.str "one")) (aCons (fC (.str "other")) aNil)))) (fA isiC (aCons (f2 ixU (fVar 7) (fC (.int 3))) (aCons (fC (.ty "tuple")) aNil)))))
    (fSet 8 (fAndV (fVar 8) (f2 ninU (f2 ixU (fVar 7) (fC (.int 3))) (fVal (aLst (aCons (fTup (aCons (fC (.str "name")) (aCons (fC (.str "or")) aNil))) (aCons (fTup aNil) (aCons (fTup (aCons (fC (.str "and")) (aCons (fTup (aCons (fC (.str "yes")) aNil)) aNil))) aNil))))))))) fNop)
    (fSeq (fIfS (fNot (fTru (fVar 8))) (fRet (fTup (aCons (fVar 4) (aCons (fVal (aLst aNil)) (aCons (fTup (aCons (fC (.str "row")) (aCons (fVar 6) aNil))) aNil))))) fNop)
    (fSeq (fSet 9 (fCall 2 (c i_law_after) (aCons (f2 ixU (fVar 5) (f1 negU (fC (.int 1)))) (aCons (fVar 7) aNil))))
    (fSeq (fIfS (fB (f2 isU (fVar 9) (fC .non))) (fRet (fTup (aCons (fVar 4) (aCons (fVal (aLst aNil)) (aCons (fTup (aCons (fC (.str "label")) (aCons (f2 ixU (fVar 7) (fC (.int 1))) aNil))) aNil))))) fNop)
    (fExpr (fM "list" appM (fVar 5) (aCons (fVar 9) aNil))))))))) : FS)) (call k) [x0, some (.lst (ws.map .str)), x2, x3, some (.lst all), some (.loc s5), some (.int (i : Nat)), some u, x8, x9, x10] S) DD := by
  have fin : ∀ {e8 : Option U} {D2 : EU}, D2.rt = DD.rt → WS (fRet (fTup (aCons (fVar 4) (aCons (fVal (aLst aNil)) (aCons (fTup (aCons (fC (.str "row")) (aCons (fVar 6) aNil))) aNil)))) [x0, some (.lst (ws.map .str)), x2, x3, some (.lst all), some (.loc s5), some (.int (i : Nat)), some u, e8, x9, x10] S) D2 := by
    intro e8 D2 e
    refine w_ret ?_
    walk_at "wp"
    rw [e]
    exact q
  dsimp only
  rcases bad_cases hw hl h with e | ⟨us, rfl, ⟨hz, e⟩ | ⟨z, rest, rfl, hz, e, hs, eg⟩⟩
  · refine w_seq (w_if ?_)
    walk_at "wp"
    refine Y.of (show isiC [u, .ty "tuple"] S = .ok (.bl false) S from ?_) ?_
    · have := h
      unfold badL at this
      simp only [List.mem_cons, List.mem_nil_iff, or_false] at this
      rcases this with rfl | rfl | rfl | rfl | rfl | rfl | rfl | rfl | rfl | rfl | rfl | rfl | rfl | rfl | rfl | rfl | rfl | rfl | rfl | rfl <;> first | rfl | cases e
    walk_at "wp"
    refine ite_b (fun _ => ?_) (fun z => by cases z)
    refine ite_b (fun _ => ?_) (fun z => by cases z)
    exact fin rfl
  · refine w_seq (w_if ?_)
    walk_at "wp"
    refine Y.of (show isiC [.tup us, .ty "tuple"] S = .ok (.bl true) S from rfl) ?_
    walk_at "wp"
    refine ite_b (fun z => by cases z) (fun _ => ?_)
    walk_at "wp"
    refine ⟨_, rfl, y_slT ?_⟩
    walk_at "wp"
    refine y_ninHead hz ?_
    walk_at "wp"
    rw [e]
    refine ite_b (fun _ => ?_) (fun z => by cases z)
    exact fin rfl
  · refine w_seq (w_if ?_)
    walk_at "wp"
    refine Y.of (show isiC [.tup (.str z :: rest), .ty "tuple"] S = .ok (.bl true) S from rfl) ?_
    walk_at "wp"
    refine ite_b (fun z => by cases z) (fun _ => ?_)
    walk_at "wp"
    refine ⟨_, rfl, y_slT ?_⟩
    walk_at "wp"
    refine y_ninHead (.inr ⟨z, rest, rfl, hz⟩) ?_
    walk_at "wp"
    rw [e]
    refine ite_b (fun z => by cases z) (fun _ => ?_)
    refine w_nop ?_
    refine good_part e hs ?_
    rw [eg]
    dsimp only
    refine w_seq (w_if ?_)
    walk_at "wp"
    refine ite_b (fun _ => ?_) (fun z => by cases z)
    exact fin rfl
theorem turn_good {r : Rw} {done : List Dk} {D : Dk} (hw : ∀ w ∈ ws, WB w) (hws : ws.length ≤ 7) (hr : r.Ok ws) (hD : DkOk ws D) (hlen : done.length ≤ 10000) (h5 : S[s5]? = some (.lst ((done ++ [D]).map dkU)))
    (q0 : aft D r = none → ∀ S', Fr [] S S' → DD.rt (refU all (noLab r.lab)) S')
    (q1 : ∀ E, aft D r = some E → ∀ (y8 y9 : Option U) S', S'[s5]? = some (.lst ((done ++ [D] ++ [E]).map dkU)) → Fr [s5] S S' → DD.nx [x0, some (.lst (ws.map .str)), x2, x3, some (.lst all), some (.loc s5), some (.int (i : Nat)), some r.u, y8, y9, x10] S') :
    WS ((fun (c : Nat → List U → Sto → R U) => ((fSeq (fIfS (fOr (fNot (fTru (fA isiC (aCons (fVar 7) (aCons (fC (.ty "tuple")) aNil))))) (fB (f2 ninU (fSl (fVar 7) oNone (oSome (fC (.int 1)))) (fVal (aLst (aCons (fTup (aCons (fC (.str "put")) aNil)) (aCons (fTup (aCons (fC (.str "drop")) aNil)) (aCons (fTup (aCons (fC (.str "move")) aNil)) aNil)))))))) (fRet (fTup (aCons (fVar 4) (aCons (fVal (aLst aNil)) (aCons (fTup (aCons (fC (.str "row")) (aCons (fVar 6) aNil))) aNil))))) fNop)
    (fSeq (fSet 8 (fAndV (f2 eqU (fA lenC (aCons (fVar 7) aNil)) (fIf (fB (f2 eqU (f2 ixU (fVar 7) (fC (.int 0))) (fC (.str "put")))) (fC (.int 4)) (fC (.int 2)))) (f2 inU (f2 ixU (fVar 7) (fC (.int 1))) (fVar 1))))
    (fSeq (fIfS (fAnd (fTru (fVar 8)) (fB (f2 eqU (f2 ixU (fVar 7) (fC (.int 0))) (fC (.str "put"))))) (fSeq (fSet 8 (fAndV (f2 inU (f2 ixU (fVar 7) (fC (.int 2))) (fTup (aCons (fC (.str "one")) (aCons (fC (.str "other")) aNil)))) (fA isiC (aCons (f2 ixU (fVar 7) (fC (.int 3))) (aCons (fC (.ty "tuple")) aNil)))))
    (fSet 8 (fAndV (fVar 8) (f2 ninU (f2 ixU (fVar 7) (fC (.int 3))) (fVal (aLst (aCons (fTup (aCons (fC (.str "name")) (aCons (fC (.str "or")) aNil))) (aCons (fTup aNil) (aCons (fTup (aCons (fC (.str "and")) (aCons (fTup (aCons (fC (.str "yes")) aNil)) aNil))) aNil))))))))) fNop)
    (fSeq (fIfS (fNot (fTru (fVar 8))) (fRet (fTup (aCons (fVar 4) (aCons (fVal (aLst aNil)) (aCons (fTup (aCons (fC (.str "row")) (aCons (fVar 6) aNil))) aNil))))) fNop)
    (fSeq (fSet 9 (fCall 2 (c i_law_after) (aCons (f2 ixU (fVar 5) (f1 negU (fC (.int 1)))) (aCons (fVar 7) aNil))))
    (fSeq (fIfS (fB (f2 isU (fVar 9) (fC .non))) (fRet (fTup (aCons (fVar 4) (aCons (fVal (aLst aNil)) (aCons (fTup (aCons (fC (.str "label")) (aCons (f2 ixU (fVar 7) (fC (.int 1))) aNil))) aNil))))) fNop)
    (fExpr (fM "list" appM (fVar 5) (aCons (fVar 9) aNil))))))))) : FS)) (call (k + 2)) [x0, some (.lst (ws.map .str)), x2, x3, some (.lst all), some (.loc s5), some (.int (i : Nat)), some r.u, x8, x9, x10] S) DD := by
  obtain ⟨z, rest, eu, hz, e, hs, eg, hlab⟩ := good_seen hr hw
  have hra := law_after (k := k + 1) (S := S) hD hr hws
  rw [eu] at q1 hra ⊢
  dsimp only
  refine w_seq (w_if ?_)
  walk_at "wp"
  refine Y.of (show isiC [.tup (.str z :: rest), .ty "tuple"] S = .ok (.bl true) S from rfl) ?_
  walk_at "wp"
  refine ite_b (fun z => by cases z) (fun _ => ?_)
  walk_at "wp"
  refine ⟨_, rfl, y_slT ?_⟩
  walk_at "wp"
  refine y_ninHead (.inr ⟨z, rest, rfl, hz⟩) ?_
  walk_at "wp"
  rw [e]
  refine ite_b (fun z => by cases z) (fun _ => ?_)
  refine w_nop ?_
  refine good_part e hs ?_
  rw [eg]
  dsimp only
  refine w_seq (w_if ?_)
  walk_at "wp"
  refine ite_b (fun z => by cases z) (fun _ => ?_)
  refine w_nop (w_seq (w_set (y_call (y_cons (y_f2 ?_)))))
  walk_at "wp"
  refine y_negI ?_
  refine y_ixLocN h5 (by rw [List.map_append]; exact List.getLast?_concat) ?_
  walk_at "wp"
  refine ⟨rfl, hra.mono ?_⟩
  rintro _ S1 ⟨rfl, f1⟩
  have h51 := f1.get h5 (by simp)
  cases ea : aft D r with
  | none =>
    refine w_seq (w_if ?_)
    walk_at "wp"
    refine ite_b (fun _ => ?_) (fun z => by cases z)
    refine w_ret ?_
    walk_at "wp"
    refine y_ix (u := .str r.lab) ?_ ?_
    · show atI (.str z :: rest) 1 = _
      cases rest with
      | nil => cases hlab
      | cons w r' => cases hlab; exact atI_nat (j := 1) rfl
    walk_at "wp"
    exact q0 ea _ f1
  | some E =>
    refine w_seq (w_if ?_)
    walk_at "wp"
    refine ite_b (fun z => by cases z) (fun _ => ?_)
    refine w_nop (w_expr (y_M ?_))
    walk_at "wp"
    refine ⟨ty_list h51, ?_⟩
    walk_at "wp"
    refine y_appG h51 (by rw [List.length_map, List.length_append, List.length_singleton, sizeL]; omega) fun S2 h2 l2 f2 => ?_
    refine q1 E ea _ _ S2 ?_ ((f1.more (by simp)).trans f2)
    rw [List.map_append]
    exact h2
end
inductive Rel2 (R : U → U → Prop) : List U → List U → Prop
  | nil : Rel2 R [] []
  | cons {u y : U} {us ys : List U} : R u y → Rel2 R us ys → Rel2 R (u :: us) (y :: ys)
theorem Rel2.snoc {R : U → U → Prop} {u y : U} : ∀ {us ys : List U}, Rel2 R us ys → R u y → Rel2 R (us ++ [u]) (ys ++ [y])
  | _, _, .nil, h => .cons h .nil
  | _, _, .cons r t, h => .cons r (t.snoc h)
theorem Rel2.len {R : U → U → Prop} : ∀ {us ys : List U}, Rel2 R us ys → ys.length = us.length
  | _, _, .nil => rfl
  | _, _, .cons _ t => by rw [List.length_cons, List.length_cons, t.len]
theorem comp_draw {n : Nat} {b : Int} {gt : U → En → Option En} {t : FT} {f : FE} {d : En} {S : Sto} (R : U → U → Prop) (c : Int) (hc : 0 ≤ c) (us : List U) (hm : us.length ≤ 100000) (t0 : Tape n b S)
    (h : ∀ u ∈ us, ∀ (b' : Int) (S1 : Sto), b' ≤ b + c * us.length → Tape n b' S1 → ∃ d1, gt u d = some d1 ∧ Y (t d1 S1) (fun bb S2 => bb = true ∧ S2 = S1) ∧ Y (f d1 S1) fun y S2 => R u y ∧ Tape n (b' + c) S2 ∧ Fr [n] S1 S2) :
    Y (compF gt t f d us [] S) fun ys S' => Rel2 R us ys ∧ Tape n (b + c * us.length) S' ∧ Fr [n] S S' := by
  refine (y_comp (Q := fun ys S' => Rel2 R us ys ∧ Tape n (b + c * us.length) S' ∧ Fr [n] S S')
    (fun us2 acc S' => ∃ done, us = done ++ us2 ∧ Rel2 R done acc ∧ Tape n (b + c * done.length) S' ∧ Fr [n] S S') ?_ ?_ _ _ _ ⟨[], rfl, .nil, t0.mono (by rw [List.length_nil]; omega), Fr.refl _ _⟩)
  · rintro u us2 acc S1 ⟨done, e, r, t1, f1⟩
    have hl := r.len
    have hlu := congrArg List.length e
    rw [List.length_append, List.length_cons] at hlu
    have hle : c * (done.length : Int) ≤ c * (us.length : Int) := Int.mul_le_mul_of_nonneg_left (by omega) hc
    obtain ⟨d1, e1, h1, h2⟩ := h u (by rw [e]; simp) (b + c * done.length) S1 (by omega) t1
    refine ⟨by rw [sizeL]; omega, d1, e1, h1.mono ?_⟩
    rintro _ _ ⟨rfl, rfl⟩
    refine h2.mono ?_
    rintro y S2 ⟨hy, t2, f2⟩
    refine ⟨done ++ [u], by rw [e, List.append_assoc]; rfl, r.snoc hy, t2.mono ?_, f1.trans f2⟩
    rw [List.length_append, List.length_singleton, Int.natCast_add, Int.mul_add]
    show _ ≤ b + (c * (done.length : Int) + c * 1)
    omega
  · rintro acc S1 ⟨done, e, r, t1, f1⟩
    rw [List.append_nil] at e
    subst e
    exact ⟨r, t1, f1⟩
theorem law_bad {k tp : Nat} {b : Int} {l : Str} {ws : List Str} {S : Sto} (t0 : Tape tp b S) (hb : b + 30 ≤ 2 ^ 100) : Y (call (k + 2) i_law_bad [.loc tp, .lst ((l :: ws).map .str)] S) fun u S' => u ∈ badL l ∧ Tape tp (b + 30) S' ∧ Fr [tp] S S' := by
  refine y_run ?_
  show WS (b_law_bad (call (k + 1)) [some (.loc tp), some (.lst ((l :: ws).map .str)), none, none] S) _
  unfold b_law_bad
  refine w_seq (w_set (y_f2 ?_))
  walk_at "wp"
  refine y_ix (u := .str l) (show ixB (.lst (.str l :: ws.map .str)) (.int 0) S = _ from atI_nat (j := 0) rfl) ?_
  refine w_seq (w_set (y_locG ?_))
  walk_at "wp"
  intro n1 S1 e1 h1 l1 f1
  refine w_seq (w_set (y_locG (y_aAdd ?_)))
  walk_at "wp"
  refine ⟨_, _, lm_loc h1, rfl, by rw [sizeL]; simp, ?_⟩
  intro n2 S2 e2 h2 l2 f2
  refine w_seq (w_set (y_locG (y_aAdd ?_)))
  walk_at "wp"
  refine ⟨_, _, lm_loc h2, rfl, by rw [sizeL]; simp, ?_⟩
  intro n3 S3 e3 h3 l3 f3
  refine w_seq (w_expr (y_M ?_))
  walk_at "wp"
  refine ⟨ty_list h3, ?_⟩
  walk_at "wp"
  refine y_appG h3 (by rw [sizeL]; simp) fun S4 h4 l4 f4 => ?_
  refine w_seq (w_set (y_locG (y_aAdd ?_)))
  walk_at "wp"
  refine ⟨_, _, lm_loc h4, rfl, by rw [sizeL]; simp, ?_⟩
  intro n5 S5 e5 h5 l5 f5
  have hl := t0.lt
  have f34 : Fr [] S S4 := (f1.trans (f2.trans f3)).thenNew f4 (by omega)
  have F5 : Fr [] S S5 := f34.trans f5
  have t5 := t0.fr F5 (by simp)
  refine w_ret (y_f2 ?_)
  walk_at "wp"
  refine y_lenLc h5 ?_
  walk_at "wp"
  refine ⟨rfl, (draw t5 (by omega) (by simp) (by simp)).mono ?_⟩
  rintro _ S6 ⟨r6, rfl, r60, r61, t6, l6, f6⟩
  have n56 : n5 ≠ tp := by omega
  have h6 := f6.get h5 (by simpa using n56)
  obtain ⟨u, hu, _, ea⟩ := atI_mem r60 r61
  refine y_ix (ixLoc h6 ea) ?_
  exact ⟨hu, t6, (F5.more (by simp)).trans f6⟩
theorem frNew {ms : List Nat} {S S1 S2 : Sto} {f : Nat} (a : Fr ms S S1) (b : Fr [f] S1 S2) (h : S.length ≤ f) : Fr ms S S2 :=
  ⟨Nat.le_trans a.1 b.1, fun m hm hn => (b.2 m (Nat.lt_of_lt_of_le hm a.1) (by simp only [List.mem_singleton]; omega)).trans (a.2 m hm hn)⟩
theorem y_slLoc {f : Nat} {us : List U} {lo hi : Option Int} {S : Sto} {Q : U → Sto → Prop} (hf : S[f]? = some (.lst us)) (h : Q (.lst (cutU us lo hi)) S) : Y (oU (slB (.loc f) lo hi S) S) Q := by
  refine y_oU (o := slB (.loc f) lo hi S) (u := .lst (cutU us lo hi)) ?_ h
  unfold slB DL.listOf listM
  simp only [hf]
  rfl
theorem lsev_loop {k : Nat} {ws : List Str} {l : Str} {s5 : Nat} {all : List U} {x0 x2 x3 x10 : Option U} (hw : ∀ w ∈ ws, WB w) (hws : ws.length ≤ 7) (hl : l ∈ ws) : ∀ (rows : List RowX) (i : Nat) {D : Dk} {done : List Dk} {S : Sto} (x6 x7 x8 x9 : Option U), (∀ x ∈ rows, x.Ok ws l) → DkOk ws D → done.length + rows.length ≤ 10000 →
    S[s5]? = some (.lst ((done ++ [D]).map dkU)) →
    WS (loopF (gTup 2 (gCons (DL.gN 6) (gCons (DL.gN 7) gNil))) ((fun (c : Nat → List U → Sto → R U) => ((fSeq (fIfS (fOr (fNot (fTru (fA isiC (aCons (fVar 7) (aCons (fC (.ty "tuple")) aNil))))) (fB (f2 ninU (fSl (fVar 7) oNone (oSome (fC (.int 1)))) (fVal (aLst (aCons (fTup (aCons (fC (.str "put")) aNil)) (aCons (fTup (aCons (fC (.str "drop")) aNil)) (aCons (fTup (aCons (fC (.str "move")) aNil)) aNil)))))))) (fRet (fTup (aCons (fVar 4) (aCons (fVal (aLst aNil)) (aCons (fTup (aCons (fC (.str "row")) (aCons (fVar 6) aNil))) aNil))))) fNop)
    (fSeq (fSet 8 (fAndV (f2 eqU (fA lenC (aCons (fVar 7) aNil)) (fIf (fB (f2 eqU (f2 ixU (fVar 7) (fC (.int 0))) (fC (.str "put")))) (fC (.int 4)) (fC (.int 2)))) (f2 inU (f2 ixU (fVar 7) (fC (.int 1))) (fVar 1))))
    (fSeq (fIfS (fAnd (fTru (fVar 8)) (fB (f2 eqU (f2 ixU (fVar 7) (fC (.int 0))) (fC (.str "put"))))) (fSeq (fSet 8 (fAndV (f2 inU (f2 ixU (fVar 7) (fC (.int 2))) (fTup (aCons (fC (.str "one")) (aCons (fC (.str "other")) aNil)))) (fA isiC (aCons (f2 ixU (fVar 7) (fC (.int 3))) (aCons (fC (.ty "tuple")) aNil)))))
    (fSet 8 (fAndV (fVar 8) (f2 ninU (f2 ixU (fVar 7) (fC (.int 3))) (fVal (aLst (aCons (fTup (aCons (fC (.str "name")) (aCons (fC (.str "or")) aNil))) (aCons (fTup aNil) (aCons (fTup (aCons (fC (.str "and")) (aCons (fTup (aCons (fC (.str "yes")) aNil)) aNil))) aNil))))))))) fNop)
    (fSeq (fIfS (fNot (fTru (fVar 8))) (fRet (fTup (aCons (fVar 4) (aCons (fVal (aLst aNil)) (aCons (fTup (aCons (fC (.str "row")) (aCons (fVar 6) aNil))) aNil))))) fNop)
    (fSeq (fSet 9 (fCall 2 (c i_law_after) (aCons (f2 ixU (fVar 5) (f1 negU (fC (.int 1)))) (aCons (fVar 7) aNil))))
    (fSeq (fIfS (fB (f2 isU (fVar 9) (fC .non))) (fRet (fTup (aCons (fVar 4) (aCons (fVal (aLst aNil)) (aCons (fTup (aCons (fC (.str "label")) (aCons (f2 ixU (fVar 7) (fC (.int 1))) aNil))) aNil))))) fNop)
    (fExpr (fM "list" appM (fVar 5) (aCons (fVar 9) aNil))))))))) : FS)) (call (k + 2))) (enumU i (rows.map RowX.u)) [x0, some (.lst (ws.map .str)), x2, x3, some (.lst all), some (.loc s5), x6, x7, x8, x9, x10] S)
      { nx := fun d' S' => ∃ (y6 y7 y8 y9 : Option U) (L : List Dk), d' = [x0, some (.lst (ws.map .str)), x2, x3, some (.lst all), some (.loc s5), y6, y7, y8, y9, x10] ∧ sevR D rows i = .ok L ∧ S'[s5]? = some (.lst ((done ++ D :: L).map dkU)) ∧ Fr [s5] S S',
        rt := fun u S' => ∃ x, sevR D rows i = .error x ∧ u = refU all x ∧ Fr [s5] S S' }
  | [], i, D, done, S, x6, x7, x8, x9, _, _, _, h5 => w_ln ⟨_, _, _, _, [], rfl, rfl, h5, Fr.refl _ _⟩
  | .bad u :: rows, i, D, done, S, x6, x7, x8, x9, hr, _, _, h5 => by
    show WS (loopF _ _ (.tup [.int (i : Nat), u] :: enumU (i + 1) (rows.map RowX.u)) _ S) _
    refine w_lc (d1 := [x0, some (.lst (ws.map .str)), x2, x3, some (.lst all), some (.loc s5), some (.int (i : Nat)), some u, x8, x9, x10]) rfl ?_
    refine turn_bad hw (hw l hl) (hr _ List.mem_cons_self) ?_
    exact ⟨_, rfl, rfl, Fr.refl _ _⟩
  | .good r :: rows, i, D, done, S, x6, x7, x8, x9, hr, hD, hlen, h5 => by
    rw [List.length_cons] at hlen
    have hro : r.Ok ws := hr _ List.mem_cons_self
    show WS (loopF _ _ (.tup [.int (i : Nat), r.u] :: enumU (i + 1) (rows.map RowX.u)) _ S) _
    refine w_lc (d1 := [x0, some (.lst (ws.map .str)), x2, x3, some (.lst all), some (.loc s5), some (.int (i : Nat)), some r.u, x8, x9, x10]) rfl ?_
    refine turn_good (k := k) hw hws hro hD (by omega) h5 (fun e S' f => ?_) fun E e y8 y9 S1 h51 f1 => ?_
    · refine ⟨noLab r.lab, ?_, rfl, f.more (by simp)⟩
      show (match aft D r with
        | none => .error (noLab r.lab)
        | some E => match sevR E rows (i + 1) with
          | .ok L => .ok (E :: L)
          | .error x => .error x : Except Exc (List Dk)) = _
      rw [e]
    · refine (lsev_loop (k := k) hw hws hl rows (i + 1) (D := E) (done := done ++ [D]) _ _ y8 y9 (fun x hx => hr x (List.mem_cons_of_mem _ hx)) (aft_ok hD hro e) (by rw [List.length_append, List.length_singleton]; omega) h51).mono ?_ ?_ (fun _ _ q => q) (fun _ _ q => q) (fun _ _ _ q => q)
      · rintro d' S' ⟨y6, y7, y8, y9, L, e1, e2, h52, f2⟩
        refine ⟨y6, y7, y8, y9, E :: L, e1, ?_, ?_, f1.trans f2⟩
        · show (match aft D r with
            | none => .error (noLab r.lab)
            | some E => match sevR E rows (i + 1) with
              | .ok L => .ok (E :: L)
              | .error x => .error x : Except Exc (List Dk)) = _
          rw [e]
          dsimp only
          rw [e2]
        · rw [h52, List.append_assoc]; rfl
      · rintro u S' ⟨x, e2, h2, f2⟩
        refine ⟨x, ?_, h2, (f1.more (by simp)).trans f2⟩
        show (match aft D r with
          | none => .error (noLab r.lab)
          | some E => match sevR E rows (i + 1) with
            | .ok L => .ok (E :: L)
            | .error x => .error x : Except Exc (List Dk)) = _
        rw [e]
        dsimp only
        rw [e2]
def sevU (D : Dk) (rows : List RowX) : U := match sevR D rows 0 with
  | .ok L => .tup [.lst (rows.map RowX.u), .lst (L.map dkU), .non]
  | .error x => refU (rows.map RowX.u) x
theorem rel_rows {ws : List Str} {us ys : List U} (h : Rel2 (fun _ y => ∃ r : Rw, y = r.u ∧ r.Ok ws) us ys) : ∃ rs : List RowX, ys = rs.map RowX.u ∧ rs.length = us.length ∧ ∀ l, ∀ x ∈ rs, x.Ok ws l := by
  induction h with
  | nil => exact ⟨[], rfl, rfl, fun l x hx => by cases hx⟩
  | cons r t ih =>
    obtain ⟨rs, e, hl, ho⟩ := ih
    obtain ⟨r, rfl, hr⟩ := r
    refine ⟨.good r :: rs, by rw [e]; rfl, by rw [List.length_cons, List.length_cons, hl], fun l x hx => ?_⟩
    rcases List.mem_cons.mp hx with rfl | hx
    · exact hr
    · exact ho l x hx
set_option maxHeartbeats 1000000 in
theorem law_several {k tp : Nat} {b : Int} {l : Str} {wr : List Str} {xs : List Say} {D : Dk} {S : Sto} (t0 : Tape tp b S) (hb : b + 2000 ≤ 2 ^ 100) (hw : ∀ w ∈ l :: wr, WB w) (h1 : (l :: wr).length ≤ 7) (hx0 : 0 < xs.length) (hx1 : xs.length ≤ 6) (hx : ∀ x ∈ xs, x.On WB ∧ x.deep ≤ 6 ∧ x.parts ≤ 7) (hD : DkOk (l :: wr) D) :
    Y (call (k + 4) i_law_several [.loc tp, .lst ((l :: wr).map .str), .lst (xs.map Say.u), dkU D] S) fun u S' => ∃ rows : List RowX, u = sevU D rows ∧ rows.length ≤ 9 ∧ (∀ x ∈ rows, x.Ok (l :: wr) l) ∧ Tape tp (b + 2000) S' ∧ Fr [tp] S S' := by
  refine y_run ?_
  show WS (b_law_several (call (k + 3)) [some (.loc tp), some (.lst ((l :: wr).map .str)), some (.lst (xs.map Say.u)), some (dkU D), none, none, none, none, none, none, none] S) _
  unfold b_law_several
  refine w_seq (w_set (y_locG (y_aComp (y_rng1 (y_cons ?_)))))
  walk_at "wp"
  refine ⟨rfl, (draw t0 (by omega) (by decide) (by decide)).mono ?_⟩
  rintro _ S1 ⟨r1, rfl, r10, r11, t1, l1, g1⟩
  walk_at "wp"
  refine ⟨r1, rfl, by omega, by omega, ?_⟩
  refine (comp_draw (fun _ y => ∃ r : Rw, y = r.u ∧ r.Ok (l :: wr)) 120 (by decide) (rngU 0 1 r1.toNat) (by rw [rng_len]; omega) t1 (fun u hu b' S2 hb' t2 => ?_)).mono ?_
  · rw [rng_len] at hb'
    refine ⟨_, rfl, ⟨rfl, rfl⟩, ?_⟩
    walk_at "wp"
    refine ⟨rfl, (law_desk_row (k := k + 1) t2 (by omega) (by show 0 < (l :: wr).length; rw [List.length_cons]; omega) h1 hx0 hx1 hx).mono ?_⟩
    rintro _ S3 ⟨r, rfl, hr, t3, f3⟩
    exact ⟨⟨r, rfl, hr⟩, t3, f3⟩
  rintro ys S2 ⟨hrel, t2, g2⟩
  rw [rng_len] at t2
  obtain ⟨rs, rfl, hlen, hro⟩ := rel_rows hrel
  rw [rng_len] at hlen
  intro f4 S3 e4 h43 l3 f3
  have F2 : Fr [tp] S S2 := g1.trans g2
  have F3 : Fr [tp] S S3 := F2.trans (f3.more (by simp))
  have t3 := t2.fr f3 (by simp)
  have hs2 := F2.1
  have htp := t0.lt
  have n4 : f4 ≠ tp := by omega
  have rest : ∀ (rows : List RowX) (S4 : Sto) (b4 : Int), S4[f4]? = some (.lst (rows.map RowX.u)) → rows.length ≤ 9 → (∀ x ∈ rows, x.Ok (l :: wr) l) → Tape tp b4 S4 → b4 ≤ b + 2000 → Fr [tp] S S4 →
      WS ((fun (c : Nat → List U → Sto → R U) => ((fSeq (fSet 5 (fLoc (aLst (aCons (fVar 3) aNil)))) (fSeq (fSeq (iceV 4) (fFor (aEnumA (aCons (fVar 4) aNil)) (gTup 2 (gCons (gN 6) (gCons (gN 7) gNil))) (fSeq (fIfS (fOr (fNot (fTru (fA isiC (aCons (fVar 7) (aCons (fC (.ty "tuple")) aNil))))) (fB (f2 ninU (fSl (fVar 7) oNone (oSome (fC (.int 1)))) (fVal (aLst (aCons (fTup (aCons (fC (.str "put")) aNil)) (aCons (fTup (aCons (fC (.str "drop")) aNil)) (aCons (fTup (aCons (fC (.str "move")) aNil)) aNil)))))))) (fRet (fTup (aCons (fVar 4) (aCons (fVal (aLst aNil)) (aCons (fTup (aCons (fC (.str "row")) (aCons (fVar 6) aNil))) aNil))))) fNop)
    (fSeq (fSet 8 (fAndV (f2 eqU (fA lenC (aCons (fVar 7) aNil)) (fIf (fB (f2 eqU (f2 ixU (fVar 7) (fC (.int 0))) (fC (.str "put")))) (fC (.int 4)) (fC (.int 2)))) (f2 inU (f2 ixU (fVar 7) (fC (.int 1))) (fVar 1))))
    (fSeq (fIfS (fAnd (fTru (fVar 8)) (fB (f2 eqU (f2 ixU (fVar 7) (fC (.int 0))) (fC (.str "put"))))) (fSeq (fSet 8 (fAndV (f2 inU (f2 ixU (fVar 7) (fC (.int 2))) (fTup (aCons (fC (.str "one")) (aCons (fC (.str "other")) aNil)))) (fA isiC (aCons (f2 ixU (fVar 7) (fC (.int 3))) (aCons (fC (.ty "tuple")) aNil)))))
    (fSet 8 (fAndV (fVar 8) (f2 ninU (f2 ixU (fVar 7) (fC (.int 3))) (fVal (aLst (aCons (fTup (aCons (fC (.str "name")) (aCons (fC (.str "or")) aNil))) (aCons (fTup aNil) (aCons (fTup (aCons (fC (.str "and")) (aCons (fTup (aCons (fC (.str "yes")) aNil)) aNil))) aNil))))))))) fNop)
    (fSeq (fIfS (fNot (fTru (fVar 8))) (fRet (fTup (aCons (fVar 4) (aCons (fVal (aLst aNil)) (aCons (fTup (aCons (fC (.str "row")) (aCons (fVar 6) aNil))) aNil))))) fNop)
    (fSeq (fSet 9 (fCall 2 (c i_law_after) (aCons (f2 ixU (fVar 5) (f1 negU (fC (.int 1)))) (aCons (fVar 7) aNil))))
    (fSeq (fIfS (fB (f2 isU (fVar 9) (fC .non))) (fRet (fTup (aCons (fVar 4) (aCons (fVal (aLst aNil)) (aCons (fTup (aCons (fC (.str "label")) (aCons (f2 ixU (fVar 7) (fC (.int 1))) aNil))) aNil))))) fNop)
    (fExpr (fM "list" appM (fVar 5) (aCons (fVar 9) aNil))))))))))) (fRet (fTup (aCons (fVar 4) (aCons (fSl (fVar 5) (oSome (fC (.int 1))) oNone) (aCons (fC .non) aNil))))))) : FS)) (call (k + 3)) [some (.loc tp), some (.lst ((l :: wr).map .str)), some (.lst (xs.map Say.u)), some (dkU D), some (.loc f4), none, none, none, none, none, none] S4) { nx := fun _ S1 => ∃ rows : List RowX, U.non = sevU D rows ∧ rows.length ≤ 9 ∧ (∀ x ∈ rows, x.Ok (l :: wr) l) ∧ Tape tp (b + 2000) S1 ∧ Fr [tp] S S1, rt := fun u S' => ∃ rows : List RowX, u = sevU D rows ∧ rows.length ≤ 9 ∧ (∀ x ∈ rows, x.Ok (l :: wr) l) ∧ Tape tp (b + 2000) S' ∧ Fr [tp] S S' } := by
    intro rows S4 b4 h4 hlen4 hro4 t4 hb4 F4
    dsimp only
    refine w_seq (w_set (y_locG ?_))
    walk_at "wp"
    intro s5 S5 e5 h5 l5 f5
    have h45 := f5.get h4 (by simp)
    have hlt4 := (List.getElem?_eq_some_iff.mp h4).1
    refine w_seq (w_seq (w_iceG (n := f4) rfl h45 fun S6 l6 f6 => ?_))
    refine w_for (y_enumAX ?_)
    walk_at "wp"
    refine ⟨_, rfl, ?_⟩
    have h56 := f6.get h5 (by simp only [List.mem_singleton]; omega)
    have F6 : Fr [tp] S S6 := frNew (F4.trans (f5.more (by simp))) f6 (by have := F4.1; omega)
    have t6 : Tape tp b4 S6 := (t4.fr f5 (by simp)).fr f6 (by simp only [List.mem_singleton]; omega)
    have hs5 : S4.length ≤ s5 := by omega
    refine (lsev_loop (k := k + 1) (x10 := none) hw h1 List.mem_cons_self rows 0 (D := D) (done := []) none none none none hro4 hD (by rw [List.length_nil]; omega) h56).mono ?_ ?_ (fun _ _ q => q) (fun _ _ q => q) (fun _ _ _ q => q)
    · rintro d' S7 ⟨y6, y7, y8, y9, L, rfl, e2, h57, f7⟩
      refine w_ret ?_
      walk_at "wp"
      refine ⟨_, rfl, ?_⟩
      walk_at "wp"
      refine y_slLoc h57 ?_
      rw [show cutU ((([] : List Dk) ++ D :: L).map dkU) (some 1) none = L.map dkU from cut_one (dkU D) (L.map dkU)]
      walk_at "wp"
      exact ⟨rows, by unfold sevU; rw [e2], hlen4, hro4, (t6.fr f7 (by simp only [List.mem_singleton]; omega)).mono (by omega), frNew F6 f7 (by have := F4.1; omega)⟩
    · rintro u S7 ⟨x, e2, rfl, f7⟩
      exact ⟨rows, by unfold sevU; rw [e2], hlen4, hro4, (t6.fr f7 (by simp only [List.mem_singleton]; omega)).mono (by omega), frNew F6 f7 (by have := F4.1; omega)⟩
  refine w_seq (w_if ?_)
  walk_at "wp"
  refine ⟨rfl, (draw t3 (by omega) (by decide) (by decide)).mono ?_⟩
  rintro _ S4 ⟨r4, rfl, r40, r41, t4, l4, f4'⟩
  have h44 := f4'.get h43 (by simpa using n4)
  have F4 := F3.trans f4'
  walk_at "wp"
  refine ite_b (fun _ => ?_) (fun _ => ?_)
  · refine w_expr (y_M ?_)
    walk_at "wp"
    refine ⟨ty_list h44, ?_⟩
    walk_at "wp"
    refine y_lenLc h44 ?_
    rw [List.length_map]
    walk_at "wp"
    refine ⟨rfl, (draw t4 (by omega) (by omega) (by omega)).mono ?_⟩
    rintro _ S5 ⟨r5, rfl, r50, r51, t5, l5, f5⟩
    have h45 := f5.get h44 (by simpa using n4)
    walk_at "wp"
    refine ⟨rfl, (law_bad (k := k + 1) (ws := wr) t5 (by omega)).mono ?_⟩
    rintro u S6 ⟨hu, t6, f6⟩
    have h46 := f6.get h45 (by simpa using n4)
    walk_at "wp"
    refine y_insG h46 (by rw [List.length_map]; omega) r50 (by omega) fun S7 h7 l7 f7 => ?_
    refine rest (rs.take r5.toNat ++ [.bad u] ++ rs.drop r5.toNat) S7 _ (by rw [h7, List.map_append, List.map_append, List.map_take, List.map_drop]; rfl) ?_ (fun x hx => ?_) (t6.fr f7 (by simpa using Ne.symm n4)) (by omega) ?_
    · rw [List.length_append, List.length_append, List.length_take, List.length_drop, List.length_singleton]; omega
    · rcases List.mem_append.mp hx with hx | hx
      · rcases List.mem_append.mp hx with hx | hx
        · exact hro l x (List.mem_of_mem_take hx)
        · rw [List.mem_singleton.mp hx]; exact hu
      · exact hro l x (List.mem_of_mem_drop hx)
    · exact frNew ((F4.trans f5).trans f6) f7 (by omega)
  · refine w_nop (rest rs S4 _ h44 (by omega) (hro l) t4 (by omega) F4)
def sdOf (D : Dk) (l : Str) : Str := ((dkAt D l).map fun p => p.2.1).getD ""
def labG (D : Dk) : U → U
  | .str l => .tup [.str l, .str (sdOf D l)]
  | _ => .non
def labU (D : Dk) : U := .lst (((sortT (D.map (·.1))).map U.str).map (labG D))
theorem dk_sort {u : U} {D : Dk} {S : Sto} {QA : List U → Sto → Prop} (hu : dictOf u S = some (dz (D.map (·.1)), D.map dkv)) (hl : D.length ≤ 60) (h : QA ((sortT (D.map (·.1))).map .str) S) : Y (sortedA [u] S) QA := by
  refine y_alt ?_
  unfold sortedC
  simp only [hu]
  rw [keys_z]
  exact y_guard (decide_eq_true (by rw [List.length_map]; omega)) ⟨h⟩
theorem mem_sort_at {D : Dk} {l : Str} (h : l ∈ sortT (D.map (·.1))) : ∃ p, dkAt D l = some p := by
  have hh : dkHas D l = true := dkHas_of.mpr (sort_mem.mp h)
  obtain ⟨p, hp, _⟩ := dkAt_of hh
  exact ⟨p, hp⟩
theorem desk_labels {k n a : Nat} {D : Dk} {As : List Dk} {m : Int} {S : Sto} (h : DeskAt n a D As m S) (hl : D.length ≤ 60) : Y (call (k + 1) i_Desk_labels [.loc n] S) fun r S' => r = labU D ∧ S' = S := by
  obtain ⟨t, kn, ls, hn, ht, ha, hls, hkn⟩ := h
  refine y_run ?_
  show WS (b_Desk_labels (call k) [some (.loc n), none] S) _
  unfold b_Desk_labels
  refine w_ret (y_val (y_aComp (y_over (y_val (y_A (y_cons (y_get ?_)))))))
  walk_at "wp"
  refine ⟨n, _, _, rfl, hn, rfl, ?_⟩
  walk_at "wp"
  refine dk_sort (D := D) (dict_loc ht) hl ?_
  refine ⟨_, rfl, ?_⟩
  refine y_compM (labG D) _ [] (fun u hu => ?_) (by rw [List.length_nil, List.length_map, sort_len, List.length_map, sizeL]; omega) ?_
  · obtain ⟨l, hl', rfl⟩ := List.mem_map.mp hu
    obtain ⟨p, hp⟩ := mem_sort_at hl'
    refine ⟨_, rfl, ?_⟩
    refine y_tup (y_cons ?_)
    walk_at "wp"
    refine y_get ?_
    walk_at "wp"
    refine ⟨n, _, _, rfl, hn, rfl, ?_⟩
    walk_at "wp"
    refine y_ixDk ht hp ?_
    walk_at "wp"
    refine y_ixT0 ?_
    walk_at "wp"
    exact ⟨by show U.tup [.str l, .str p.2.1] = .tup [.str l, .str (sdOf D l)]; unfold sdOf; rw [hp]; rfl, rfl⟩
  · exact ⟨rfl, rfl⟩
theorem desk_deeds {k n a : Nat} {D : Dk} {As : List Dk} {m : Int} {S : Sto} (h : DeskAt n a D As m S) : Y (call (k + 1) i_Desk_deeds [.loc n] S) fun r S' => r = .int m ∧ S' = S := by
  obtain ⟨t, kn, ls, hn, ht, ha, hls, hkn⟩ := h
  refine y_run ?_
  show WS (b_Desk_deeds (call k) [some (.loc n)] S) _
  unfold b_Desk_deeds
  refine w_ret (y_get ?_)
  walk_at "wp"
  exact ⟨n, _, _, rfl, hn, rfl, rfl, rfl⟩
theorem y_eqSelf {c n : Nat} {u : U} {S : Sto} {Q : U → Sto → Prop} (p : Pl c n u) (hn : n ≤ 64) (hs : scalU u u = false) (h : Q (.bl true) S) : Y (eqU u u S) Q := by
  obtain ⟨d, hd, hsh⟩ := p.shaped hn S
  exact y_eqD hd hd hsh hsh hs (by rw [eqv_refl d (SeqAt.canLay_of_shaped hsh)]; exact h)
theorem y_neSelf {c n : Nat} {u : U} {S : Sto} {Q : U → Sto → Prop} (p : Pl c n u) (hn : n ≤ 64) (hs : scalU u u = false) (h : Q (.bl false) S) : Y (neU u u S) Q := by
  obtain ⟨d, hd, hsh⟩ := p.shaped hn S
  exact y_neSame hd hd hsh hs h
theorem side_pl {s : Str} (h : sideOk s) {c n : Nat} : Pl c n (.str s) := Pl.strs (by rcases h with rfl | rfl <;> exact ⟨by decide +kernel, by decide +kernel⟩)
theorem lab_pl {ws : List Str} {D : Dk} (hw : ∀ w ∈ ws, WB w) (hD : DkOk ws D) (hl : D.length ≤ 60) : Pl 100 3 (labU D) := by
  unfold labU Pl
  refine ⟨by rw [List.length_map, List.length_map, sort_len, List.length_map]; omega, fun u hu => ?_⟩
  obtain ⟨v, hv, rfl⟩ := List.mem_map.mp hu
  obtain ⟨l, hl', rfl⟩ := List.mem_map.mp hv
  obtain ⟨p, hp⟩ := mem_sort_at hl'
  have hm : p ∈ D := List.mem_of_find?_eq_some (show D.find? (fun p => decide (p.1 = l)) = some p from hp)
  have hlw : l ∈ ws := by
    obtain ⟨q, hq, e⟩ := List.mem_map.mp (sort_mem.mp hl')
    rw [← e]
    exact hD.lab q hq
  show Pl 100 2 (.tup [.str l, .str (sdOf D l)])
  unfold Pl
  refine ⟨by show 2 ≤ 100; decide, fun u hu => ?_⟩
  simp only [List.mem_cons, List.mem_nil_iff, or_false] at hu
  rcases hu with rfl | rfl
  · exact Pl.strs (wb_str (hw l hlw))
  · refine side_pl ?_
    unfold sdOf
    rw [hp]
    exact hD.side p hm
theorem law_right {k n a s5 : Nat} {D : Dk} {As : List Dk} {m : Int} {ws : List Str} {S : Sto} (hw : ∀ w ∈ ws, WB w) (hD : DkOk ws D) (hl : D.length ≤ 60) (h : DeskAt n a D As m S) (h5 : S[s5]? = some (.lst ((As ++ [D]).map dkU))) :
    Y (call (k + 2) i_law_right [.loc n, .loc s5, .int m] S) fun r S' => r = .bl true ∧ S' = S := by
  have h0 := h
  obtain ⟨t, kn, ls, hn, ht, ha, hls, hkn⟩ := h
  refine y_run ?_
  show WS (b_law_right (call (k + 1)) [some (.loc n), some (.loc s5), some (.int m), none, none] S) _
  unfold b_law_right
  refine w_seq (w_set (y_f2 ?_))
  walk_at "wp"
  refine y_negI (y_ixLocN h5 (by rw [List.map_append]; exact List.getLast?_concat) ?_)
  refine w_ret (y_andV (y_f2 (y_meth ?_)))
  walk_at "wp"
  refine ⟨ins_ok hn rfl, ?_⟩
  walk_at "wp"
  refine ⟨rfl, (desk_labels (k := k) h0 hl).mono ?_⟩
  rintro _ _ ⟨rfl, rfl⟩
  refine y_val (y_aComp (y_over (y_val (y_A (y_cons ?_)))))
  walk_at "wp"
  refine dk_sort (D := D) rfl hl ?_
  refine ⟨_, rfl, ?_⟩
  refine y_compM (labG D) _ [] (fun u hu => ?_) (by rw [List.length_nil, List.length_map, sort_len, List.length_map, sizeL]; omega) ?_
  · obtain ⟨l, hl', rfl⟩ := List.mem_map.mp hu
    obtain ⟨p, hp⟩ := mem_sort_at hl'
    refine ⟨_, rfl, ?_⟩
    refine y_tup (y_cons ?_)
    walk_at "wp"
    refine y_ixDkV hp ?_
    walk_at "wp"
    refine y_ixT0 ?_
    walk_at "wp"
    exact ⟨by show U.tup [.str l, .str p.2.1] = .tup [.str l, .str (sdOf D l)]; unfold sdOf; rw [hp]; rfl, rfl⟩
  show Y (eqU (labU D) (labU D) _) _
  refine y_eqSelf (lab_pl hw hD hl) (by decide) rfl ?_
  refine y_tbl ?_
  refine ite_b (fun _ => ?_) (fun z => by cases z)
  refine y_f2 (y_meth ?_)
  walk_at "wp"
  refine ⟨ins_ok hn rfl, ?_⟩
  walk_at "wp"
  refine ⟨rfl, (desk_deeds (k := k) h0).mono ?_⟩
  rintro _ _ ⟨rfl, rfl⟩
  walk_at "wp"
  exact ⟨by rw [decide_eq_true rfl], rfl⟩
def dueV : U → U
  | .exc _ f v => .tup [.str f, v]
  | _ => .non
theorem told_tail {k : Nat} {x0 x1 x2 x4 : Option U} {v : U} {S : Sto} {DD : EU} (hv : v = .non ∨ (∃ l, v = .exc "NoLabel" "label" (.str l)) ∨ ∃ i : Nat, v = .exc "NoRow" "row" (.int (i : Int))) (q : DD.rt (dueV v) S) :
    WS ((fun (c : Nat → List U → Sto → R U) => ((fSeq (fIfS (fTru (fA (isxNC is_tab "NoLabel") (aCons (fVar 3) (aCons (fC (.cl "NoLabel")) aNil)))) (fRet (fIf (fTru (fA (isxC is_tab) (aCons (fVar 3) (aCons (fC (.ty "KeyError")) aNil)))) (fTup (aCons (fC (.str "label")) (aCons (fFld ["NoLabel"] "label" (fVar 3)) aNil))) (fC .non))) fNop) (fSeq (fIfS (fTru (fA (isxNC is_tab "NoRow") (aCons (fVar 3) (aCons (fC (.cl "NoRow")) aNil)))) (fRet (fIf (fTru (fA (isxC is_tab) (aCons (fVar 3) (aCons (fC (.ty "ValueError")) aNil)))) (fTup (aCons (fC (.str "row")) (aCons (fFld ["NoRow"] "row" (fVar 3)) aNil))) (fC .non))) fNop) (fRet (fC .non)))) : FS)) (call k) [x0, x1, x2, some v, x4] S) DD := by
  dsimp only
  rcases hv with rfl | ⟨l, rfl⟩ | ⟨i, rfl⟩
  · refine w_seq (w_if ?_)
    walk_at "wp"
    refine Y.of (show isxNC is_tab "NoLabel" [.non, .cl "NoLabel"] S = .ok (.bl false) S from by kernel_rfl) (y_tbl ?_)
    refine ite_b (fun z => by cases z) (fun _ => ?_)
    refine w_nop (w_seq (w_if ?_))
    walk_at "wp"
    refine Y.of (show isxNC is_tab "NoRow" [.non, .cl "NoRow"] S = .ok (.bl false) S from by kernel_rfl) (y_tbl ?_)
    refine ite_b (fun z => by cases z) (fun _ => ?_)
    refine w_nop ?_
    walk_at "wp"
    exact q
  · refine w_seq (w_if ?_)
    walk_at "wp"
    refine Y.of (show isxNC is_tab "NoLabel" [.exc "NoLabel" "label" (.str l), .cl "NoLabel"] S = .ok (.bl true) S from by kernel_rfl) (y_tbl ?_)
    refine ite_b (fun _ => ?_) (fun z => by cases z)
    refine w_ret (y_if ?_)
    walk_at "wp"
    refine Y.of (show isxC is_tab [.exc "NoLabel" "label" (.str l), .ty "KeyError"] S = .ok (.bl true) S from by kernel_rfl) (y_tbl ?_)
    refine ite_b (fun _ => ?_) (fun z => by cases z)
    refine y_tup (y_cons ?_)
    walk_at "wp"
    refine y_fld ?_
    walk_at "wp"
    refine ⟨_, _, rfl, by decide +kernel, ?_⟩
    walk_at "wp"
    exact q
  · refine w_seq (w_if ?_)
    walk_at "wp"
    refine Y.of (show isxNC is_tab "NoLabel" [.exc "NoRow" "row" (.int (i : Int)), .cl "NoLabel"] S = .ok (.bl false) S from by kernel_rfl) (y_tbl ?_)
    refine ite_b (fun z => by cases z) (fun _ => ?_)
    refine w_nop (w_seq (w_if ?_))
    walk_at "wp"
    refine Y.of (show isxNC is_tab "NoRow" [.exc "NoRow" "row" (.int (i : Int)), .cl "NoRow"] S = .ok (.bl true) S from by kernel_rfl) (y_tbl ?_)
    refine ite_b (fun _ => ?_) (fun z => by cases z)
    refine w_ret (y_if ?_)
    walk_at "wp"
    refine Y.of (show isxC is_tab [.exc "NoRow" "row" (.int (i : Int)), .ty "ValueError"] S = .ok (.bl true) S from by kernel_rfl) (y_tbl ?_)
    refine ite_b (fun _ => ?_) (fun z => by cases z)
    refine y_tup (y_cons ?_)
    walk_at "wp"
    refine y_fld ?_
    walk_at "wp"
    refine ⟨_, _, rfl, by decide +kernel, ?_⟩
    walk_at "wp"
    exact q
section
variable {k n a : Nat} {D : Dk} {As : List Dk} {m : Int} {S : Sto} {ws : List Str} {l : Str}
def dueE (x : Exc) : U := .tup [.str x.fld, x.arg]
theorem look_lab (z : Str) : lookAny [lookM ex_NoLabel, lookM ex_NoRow] "NoLabel" = some true := by kernel_rfl
theorem look_row (z : Str) : lookAny [lookM ex_NoLabel, lookM ex_NoRow] "NoRow" = some true := by kernel_rfl
theorem told_undo0 (h : DeskAt n a D [] m S) : Y (call (k + 3) i_law_told [.loc n, .str "undo", .tup []] S) fun r S' => r = dueE (noLab "undo") ∧ S' = S := by
  have h0 := h
  obtain ⟨t, kn, ls, hn, ht, ha, hls, hkn⟩ := h
  refine y_run ?_
  show WS (b_law_told (call (k + 2)) [some (.loc n), some (.str "undo"), some (.tup []), none, none] S) _
  unfold b_law_told
  refine w_seq (w_set ?_)
  walk_at "wp"
  refine w_try (w_if ?_)
  walk_at "wp"
  refine ite_b (fun z => by cases z) (fun _ => ?_)
  refine w_if ?_
  walk_at "wp"
  refine ite_b (fun _ => ?_) (fun z => by cases z)
  refine w_exprM ?_
  walk_at "wp"
  refine ⟨ins_ok hn rfl, ?_⟩
  walk_at "wp"
  refine ⟨rfl, (undo_none (k := k + 1) h0).mono (fun _ _ q => q.elim) ?_⟩
  rintro x _ ⟨rfl, rfl⟩
  refine ⟨look_lab "", ?_⟩
  refine w_set (y_var rfl ?_)
  exact told_tail (k := 0) (.inr (.inl ⟨_, rfl⟩)) ⟨rfl, rfl⟩
theorem told_undo {E : Dk} (h : DeskAt n a D (As ++ [E]) m S) : Y (call (k + 3) i_law_told [.loc n, .str "undo", .tup []] S) fun r S' => r = .non ∧ DeskAt n a E As (m + 1) S' ∧ Fr [n, a] S S' := by
  have h0 := h
  obtain ⟨t, kn, ls, hn, ht, ha, hls, hkn⟩ := h
  refine y_run ?_
  show WS (b_law_told (call (k + 2)) [some (.loc n), some (.str "undo"), some (.tup []), none, none] S) _
  unfold b_law_told
  refine w_seq (w_set ?_)
  walk_at "wp"
  refine w_try (w_if ?_)
  walk_at "wp"
  refine ite_b (fun z => by cases z) (fun _ => ?_)
  refine w_if ?_
  walk_at "wp"
  refine ite_b (fun _ => ?_) (fun z => by cases z)
  refine w_expr (y_meth ?_)
  walk_at "wp"
  refine ⟨ins_ok hn rfl, ?_⟩
  walk_at "wp"
  refine ⟨rfl, (undo_some (k := k + 1) h0).mono ?_⟩
  rintro _ S1 ⟨h1, f1⟩
  exact told_tail (k := 0) (.inl rfl) ⟨rfl, h1, f1⟩
def aftDue (r : Rw) : Option Dk → U
  | none => dueE (noLab r.lab)
  | some _ => .non
def Rw.word : Rw → Str
  | .put _ _ _ => "put"
  | .drop _ => "drop"
  | .move _ => "move"
theorem told_row {r : Rw} (h : DeskAt n a D As m S) (hD : DkOk ws D) (hws : ws.length ≤ 7) (hl : As.length ≤ 90000) :
    Y (call (k + 4) i_law_told [.loc n, .str r.word, r.u] S) fun u S' => u = aftDue r (aft D r) ∧ (∀ E, aft D r = some E → DeskAt n a E (As ++ [D]) (m + 1) S') ∧ (aft D r = none → S' = S) ∧ Fr [n, a] S S' := by
  have h0 := h
  have hdl := hD.len
  obtain ⟨t, kn, ls, hn, ht, ha, hls, hkn⟩ := h
  refine y_run ?_
  cases r with
  | put l sd x =>
    show WS (b_law_told (call (k + 3)) [some (.loc n), some (.str "put"), some (Rw.put l sd x).u, none, none] S) _
    unfold b_law_told
    refine w_seq (w_set ?_)
    walk_at "wp"
    refine w_try (w_if ?_)
    walk_at "wp"
    refine ite_b (fun z => by cases z) (fun _ => ?_)
    refine w_if ?_
    walk_at "wp"
    refine ite_b (fun z => by cases z) (fun _ => ?_)
    refine w_if ?_
    walk_at "wp"
    refine ite_b (fun _ => ?_) (fun z => by cases z)
    refine w_exprM ?_
    walk_at "wp"
    refine ⟨ins_ok hn rfl, ?_⟩
    walk_at "wp"
    refine y_ix (u := .str l) rfl ?_
    walk_at "wp"
    refine y_ix (u := .str sd) rfl ?_
    walk_at "wp"
    refine y_ix (u := x.u) rfl ?_
    walk_at "wp"
    refine ⟨rfl, (deed_put (k := k + 1) h0 (by omega) (by omega)).mono ?_ ?_⟩
    · rintro _ S1 ⟨E, hE, h1, f1⟩
      exact told_tail (k := 0) (.inl rfl) ⟨by rw [hE]; rfl, (fun E' e => by rw [hE] at e; cases e; exact h1), (fun e => by rw [hE] at e; cases e), f1⟩
    · rintro x _ ⟨hE, rfl, rfl⟩
      refine ⟨look_lab "", ?_⟩
      refine w_set (y_var rfl ?_)
      exact told_tail (k := 0) (.inr (.inl ⟨_, rfl⟩)) ⟨by rw [hE]; rfl, fun E' e => (by rw [hE] at e; cases e), fun _ => rfl, Fr.refl _ _⟩
  | drop l =>
    show WS (b_law_told (call (k + 3)) [some (.loc n), some (.str "drop"), some (Rw.drop l).u, none, none] S) _
    unfold b_law_told
    refine w_seq (w_set ?_)
    walk_at "wp"
    refine w_try (w_if ?_)
    walk_at "wp"
    refine ite_b (fun z => by cases z) (fun _ => ?_)
    refine w_if ?_
    walk_at "wp"
    refine ite_b (fun z => by cases z) (fun _ => ?_)
    refine w_if ?_
    walk_at "wp"
    refine ite_b (fun z => by cases z) (fun _ => ?_)
    refine w_if ?_
    walk_at "wp"
    refine ite_b (fun _ => ?_) (fun z => by cases z)
    refine w_exprM ?_
    walk_at "wp"
    refine ⟨ins_ok hn rfl, ?_⟩
    walk_at "wp"
    refine y_ix (u := .str l) rfl ?_
    walk_at "wp"
    refine ⟨rfl, (deed_drop (k := k + 1) h0 hD.nd (by omega) (by omega)).mono ?_ ?_⟩
    · rintro _ S1 ⟨E, hE, h1, f1⟩
      exact told_tail (k := 0) (.inl rfl) ⟨by rw [hE]; rfl, (fun E' e => by rw [hE] at e; cases e; exact h1), (fun e => by rw [hE] at e; cases e), f1⟩
    · rintro x _ ⟨hE, rfl, rfl⟩
      refine ⟨look_lab "", ?_⟩
      refine w_set (y_var rfl ?_)
      exact told_tail (k := 0) (.inr (.inl ⟨_, rfl⟩)) ⟨by rw [hE]; rfl, fun E' e => (by rw [hE] at e; cases e), fun _ => rfl, Fr.refl _ _⟩
  | move l =>
    show WS (b_law_told (call (k + 3)) [some (.loc n), some (.str "move"), some (Rw.move l).u, none, none] S) _
    unfold b_law_told
    refine w_seq (w_set ?_)
    walk_at "wp"
    refine w_try (w_if ?_)
    walk_at "wp"
    refine ite_b (fun z => by cases z) (fun _ => ?_)
    refine w_if ?_
    walk_at "wp"
    refine ite_b (fun z => by cases z) (fun _ => ?_)
    refine w_if ?_
    walk_at "wp"
    refine ite_b (fun z => by cases z) (fun _ => ?_)
    refine w_if ?_
    walk_at "wp"
    refine ite_b (fun z => by cases z) (fun _ => ?_)
    refine w_exprM ?_
    walk_at "wp"
    refine ⟨ins_ok hn rfl, ?_⟩
    walk_at "wp"
    refine y_ix (u := .str l) rfl ?_
    walk_at "wp"
    refine ⟨rfl, (deed_move (k := k + 1) h0 hD.side (by omega) (by omega)).mono ?_ ?_⟩
    · rintro _ S1 ⟨E, hE, h1, f1⟩
      exact told_tail (k := 0) (.inl rfl) ⟨by rw [hE]; rfl, (fun E' e => by rw [hE] at e; cases e; exact h1), (fun e => by rw [hE] at e; cases e), f1⟩
    · rintro x _ ⟨hE, rfl, rfl⟩
      refine ⟨look_lab "", ?_⟩
      refine w_set (y_var rfl ?_)
      exact told_tail (k := 0) (.inr (.inl ⟨_, rfl⟩)) ⟨by rw [hE]; rfl, fun E' e => (by rw [hE] at e; cases e), fun _ => rfl, Fr.refl _ _⟩
theorem rw_lab {ws : List Str} {r : Rw} (h : r.Ok ws) : r.lab ∈ ws := by
  cases r with
  | put l sd x => exact h.1
  | drop l => exact h
  | move l => exact h
theorem sev_err {ws : List Str} {l : Str} : ∀ {rows : List RowX} {D : Dk} {i : Nat} {x : Exc}, (∀ x ∈ rows, x.Ok ws l) → sevR D rows i = .error x → (∃ l ∈ ws, x = noLab l) ∨ ∃ j, x = noRow j
  | [], D, i, x, _, e => by cases e
  | .bad u :: rs, D, i, x, _, e => by cases e; exact .inr ⟨_, rfl⟩
  | .good r :: rs, D, i, x, h, e => by
    have e : (match aft D r with
      | none => .error (noLab r.lab)
      | some E => match sevR E rs (i + 1) with
        | .ok L => .ok (E :: L)
        | .error x => .error x : Except Exc (List Dk)) = .error x := e
    cases e1 : aft D r with
    | none => rw [e1] at e; cases e; exact .inl ⟨_, rw_lab (h _ List.mem_cons_self), rfl⟩
    | some E =>
      rw [e1] at e
      dsimp only at e
      cases e2 : sevR E rs (i + 1) with
      | error y => rw [e2] at e; cases e; exact sev_err (fun x hx => h x (List.mem_cons_of_mem _ hx)) e2
      | ok L => rw [e2] at e; cases e
theorem told_several (hw : ∀ w ∈ ws, WB w) (hws : ws.length ≤ 7) (hl : l ∈ ws) {rows : List RowX} (hr : ∀ x ∈ rows, x.Ok ws l) (h : DeskAt n a D As m S) (hD : DkOk ws D) (hlen : As.length + rows.length ≤ 90000) :
    Y (call (k + 32) i_law_told [.loc n, .str "several", .lst (rows.map RowX.u)] S) fun u S' => (∀ L, sevR D rows 0 = .ok L → u = .non ∧ DeskL n a (As ++ D :: L) (m + (L.length : Nat)) S') ∧ (∀ x, sevR D rows 0 = .error x → u = dueE x ∧ ∃ a', DeskAt n a' D As m S' ∧ S.length ≤ a') ∧ Fr [n, a] S S' := by
  have h0 := h
  obtain ⟨t, kn, ls, hn, ht, ha, hls, hkn⟩ := h
  refine y_run ?_
  show WS (b_law_told (call (k + 31)) [some (.loc n), some (.str "several"), some (.lst (rows.map RowX.u)), none, none] S) _
  unfold b_law_told
  refine w_seq (w_set ?_)
  walk_at "wp"
  refine w_try (w_if ?_)
  walk_at "wp"
  refine ite_b (fun _ => ?_) (fun z => by cases z)
  refine w_exprM ?_
  walk_at "wp"
  refine ⟨ins_ok hn rfl, ?_⟩
  walk_at "wp"
  refine ⟨rfl, (several (k := k) hw hws hl hr h0 hD hlen).mono ?_ ?_⟩
  · rintro _ S1 ⟨L, e, h1, f1⟩
    exact told_tail (k := 0) (.inl rfl) ⟨fun L' e' => (by rw [e] at e'; cases e'; exact ⟨rfl, h1⟩), fun x e' => (by rw [e] at e'; cases e'), f1⟩
  · rintro x S1 ⟨e, a', h1, ha', f1⟩
    rcases sev_err hr e with ⟨l, _, rfl⟩ | ⟨j, rfl⟩
    · refine ⟨look_lab "", ?_⟩
      refine w_set (y_var rfl ?_)
      exact told_tail (k := 0) (.inr (.inl ⟨_, rfl⟩)) ⟨fun L' e' => (by rw [e] at e'; cases e'), fun x e' => (by rw [e] at e'; cases e'; exact ⟨rfl, a', h1, ha'⟩), f1⟩
    · refine ⟨look_row "", ?_⟩
      refine w_set (y_var rfl ?_)
      exact told_tail (k := 0) (.inr (.inr ⟨_, rfl⟩)) ⟨fun L' e' => (by rw [e] at e'; cases e'), fun x e' => (by rw [e] at e'; cases e'; exact ⟨rfl, a', h1, ha'⟩), f1⟩
end
theorem w_loopR {gt : U → En → Option En} {g : FS} {D : EU} (n : Nat) (I : Nat → En → Sto → Prop)
    (h : ∀ i d S, i < n → I i d S → ∃ d1, gt (.int (i : Int)) d = some d1 ∧ WS (g d1 S) { D with nx := I (i + 1), ct := I (i + 1), bk := D.nx }) (h0 : ∀ d S, I n d S → D.nx d S) (d : En) (S : Sto) (hi : I 0 d S) : WS (loopF gt g (rngU 0 1 n) d S) D := by
  refine w_loop (fun us d S => ∃ j, j ≤ n ∧ us = ((List.range n).drop j).map (fun (i : Nat) => U.int (0 + (i : Int) * 1)) ∧ I j d S) ?_ ?_ _ _ _ ⟨0, Nat.zero_le _, rfl, hi⟩
  · rintro u us d S ⟨j, hj, e, hI⟩
    have hlt : j < n := by
      refine Nat.lt_of_not_le fun z => ?_
      rw [List.drop_eq_nil_of_le (by rw [List.length_range]; exact z)] at e
      cases e
    rw [List.drop_eq_getElem_cons (by rw [List.length_range]; exact hlt), List.getElem_range, List.map_cons, show (0 : Int) + (j : Int) * 1 = (j : Int) by omega] at e
    injection e with e1 e2
    obtain ⟨d1, g1, hw⟩ := h j d S hlt hI
    refine ⟨d1, by rw [e1]; exact g1, hw.mono ?_ (fun _ _ q => q) (fun _ _ q => q) ?_ (fun _ _ _ q => q)⟩
    · exact fun d2 S2 q => ⟨j + 1, hlt, e2, q⟩
    · exact fun d2 S2 q => ⟨j + 1, hlt, e2, q⟩
  · rintro d S ⟨j, hj, e, hI⟩
    have : j = n := by
      refine Nat.le_antisymm hj (Nat.le_of_not_lt fun z => ?_)
      rw [List.drop_eq_getElem_cons (by rw [List.length_range]; exact z)] at e
      cases e
    subst this
    exact h0 d S hI
def sideI (i : Nat) : Str := if i % 2 = 0 then "one" else "other"
def mvD (l : Str) (i : Nat) : Dk := [(l, sideI i, Say.yes.u)]
def mvA (l : Str) (i : Nat) : List Dk := [] :: (List.range i).map (mvD l)
theorem sideI_ok (i : Nat) : sideOk (sideI i) := by
  unfold sideI sideOk
  split
  · exact .inl rfl
  · exact .inr rfl
theorem sideI_next (i : Nat) : sideN (sideI i) = sideI (i + 1) := by
  unfold sideN sideI
  by_cases h : i % 2 = 0
  · rw [if_pos h, if_neg (by decide), if_neg (by omega)]
  · rw [if_neg h, if_pos rfl, if_pos (by omega)]
theorem mvA_next (l : Str) (i : Nat) : mvA l (i + 1) = mvA l i ++ [mvD l i] := by
  unfold mvA
  rw [List.range_succ, List.map_append]
  rfl
theorem mvA_len (l : Str) (i : Nat) : (mvA l i).length = i + 1 := by
  unfold mvA
  rw [List.length_cons, List.length_map, List.length_range]
theorem aft_mv (l : Str) (i : Nat) : aft (mvD l i) (.move l) = some (mvD l (i + 1)) := by
  have h1 : dkAt (mvD l i) l = some (l, sideI i, Say.yes.u) := by
    unfold dkAt mvD
    rw [List.find?_cons, decide_eq_true rfl]
  have h2 : dkHas (mvD l i) l = true := dkHas_of.mpr (by simp [mvD])
  show (dkAt (mvD l i) l).map _ = _
  rw [h1]
  show some (dkPut (mvD l i) (l, sideN (sideI i), Say.yes.u)) = _
  rw [sideI_next]
  unfold dkPut
  rw [if_pos h2]
  unfold mvD
  rw [List.map_cons, if_pos rfl]
  rfl
theorem mv_ok {ws : List Str} {l : Str} (h : l ∈ ws) (i : Nat) : DkOk ws (mvD l i) := ⟨by simp [mvD], fun p hp => (by rw [List.mem_singleton.mp hp]; exact h), fun p hp => by rw [List.mem_singleton.mp hp]; exact sideI_ok i⟩
theorem lab_mv (l : Str) (i : Nat) : labU (mvD l i) = .lst [.tup [.str l, .str (sideI i)]] := by
  unfold labU
  rw [show (mvD l i).map (·.1) = [l] from rfl, sort_one]
  have : sdOf (mvD l i) l = sideI i := by
    unfold sdOf dkAt mvD
    rw [List.find?_cons, decide_eq_true rfl]
    rfl
  show U.lst [.tup [.str l, .str (sdOf (mvD l i) l)]] = _
  rw [this]
theorem y_mv {S : Sto} {Q : U → Sto → Prop} {q : Int} {i : Nat} (e : q = (i : Int)) (h : Q (.str (sideI i)) S) : Y (ixU (.lst [.str "one", .str "other"]) (.int (q % 2)) S) Q := by
  subst e
  refine y_ix (u := .str (sideI i)) ?_ h
  by_cases h : i % 2 = 0
  · rw [show ((i : Int) % 2) = 0 by omega]
    unfold sideI
    rw [if_pos h]
    rfl
  · rw [show ((i : Int) % 2) = 1 by omega]
    unfold sideI
    rw [if_neg h]
    rfl
set_option maxHeartbeats 1000000 in
theorem law_many {k n a q : Nat} {l : Str} {m : Int} {S : Sto} (hl : WB l) (hq : q ≤ 1000) (h : DeskAt n a [] [] m S) : Y (call (k + 5) i_law_many [.loc n, .str l, .int m, .int (q : Nat)] S) fun r S' => r = .bl true := by
  have hw : ∀ w ∈ [l], WB w := fun w hw => by rw [List.mem_singleton.mp hw]; exact hl
  have hok : ∀ i, DkOk [l] (mvD l i) := mv_ok (by simp)
  have lp : ∀ i, Pl 100 3 (.lst [.tup [.str l, .str (sideI i)]]) := fun i => by rw [← lab_mv]; exact lab_pl hw (hok i) (by show 1 ≤ 60; decide)
  obtain ⟨t, kn, ls, hn, ht, ha, hls, hkn⟩ := id h
  refine y_run ?_
  show WS (b_law_many (call (k + 4)) [some (.loc n), some (.str l), some (.int m), some (.int (q : Nat)), none] S) _
  unfold b_law_many
  refine w_seq (w_exprM ?_)
  walk_at "wp"
  refine ⟨ins_ok hn rfl, ?_⟩
  walk_at "wp"
  refine ⟨rfl, (deed_put (k := k + 2) (l := l) (sd := "one") (x := .yes) h (by decide) (by decide)).mono ?_ ?_⟩
  case refine_2 =>
    rintro x S' ⟨e, _⟩
    cases e
  rintro _ S1 ⟨E, hE, h1, f1⟩
  have eE : E = mvD l 0 := by
    have : some ([(l, ("one" : Str), Say.yes.u)] : Dk) = some E := hE
    exact (Option.some.inj this).symm
  subst eE
  refine w_seq (w_for (y_rng1 (y_cons ?_)))
  walk_at "wp"
  refine ⟨(q : Int), rfl, by omega, by omega, ?_⟩
  rw [Int.toNat_natCast]
  refine w_loopR q (fun j d S' => ∃ x4, d = [some (.loc n), some (.str l), some (.int m), some (.int (q : Nat)), x4] ∧ DeskAt n a (mvD l j) (mvA l j) (m + 1 + (j : Nat)) S') ?_ ?_ _ _ ⟨none, rfl, by rw [show m + 1 + ((0 : Nat) : Int) = m + 1 by omega]; exact h1⟩
  · rintro j d S2 hj ⟨x4, rfl, h2⟩
    obtain ⟨t2, kn2, ls2, hn2, _, _, _, _⟩ := id h2
    refine ⟨_, rfl, ?_⟩
    refine w_exprM ?_
    walk_at "wp"
    refine ⟨ins_ok hn2 rfl, ?_⟩
    walk_at "wp"
    refine ⟨rfl, (deed_move (k := k + 2) (l := l) h2 (hok j).side (by show 1 ≤ 100000; decide) (by rw [mvA_len]; omega)).mono ?_ ?_⟩
    · rintro _ S3 ⟨E, hE, h3, f3⟩
      rw [aft_mv] at hE
      cases hE
      refine ⟨_, rfl, ?_⟩
      rw [mvA_next, show m + 1 + ((j + 1 : Nat) : Int) = m + 1 + (j : Nat) + 1 by omega]
      exact h3
    · rintro x S3 ⟨e, _⟩
      rw [aft_mv] at e
      cases e
  rintro d S2 ⟨x4, rfl, h2⟩
  obtain ⟨t2, kn2, ls2, hn2, _, _, _, _⟩ := id h2
  have lab : ∀ {i : Nat} {As : List Dk} {m' : Int} {S' : Sto} {Q : U → Sto → Prop}, DeskAt n a (mvD l i) As m' S' → Q (.lst [.tup [.str l, .str (sideI i)]]) S' → Y (call (k + 4) i_Desk_labels [.loc n] S') Q := fun h q => (desk_labels (k := k + 3) h (by show 1 ≤ 60; decide)).mono fun r S'' ⟨e1, e2⟩ => by subst e1 e2; rw [lab_mv]; exact q
  refine w_seq (w_if (y_or (y_B (y_f2 (y_meth ?_)))))
  walk_at "wp"
  refine ⟨ins_ok hn2 rfl, ?_⟩
  walk_at "wp"
  refine ⟨rfl, lab h2 ?_⟩
  walk_at "wp"
  refine y_modI (by decide) ?_
  refine y_mv (i := q) rfl ?_
  walk_at "wp"
  refine y_neSelf (lp q) (by decide) rfl ?_
  walk_at "wp"
  refine ite_b (fun z => by cases z) (fun _ => ?_)
  refine y_B (y_f2 (y_meth ?_))
  walk_at "wp"
  refine ⟨ins_ok hn2 rfl, ?_⟩
  walk_at "wp"
  refine ⟨rfl, (desk_deeds (k := k + 3) h2).mono ?_⟩
  rintro _ _ ⟨rfl, rfl⟩
  walk_at "wp"
  refine ite_b (fun z => ?_) (fun _ => ?_)
  · exfalso
    rw [show (m + 1 + (q : Nat) : Int) = m + (q : Nat) + 1 by omega, decide_eq_true rfl] at z
    cases z
  refine w_nop (w_seq (w_for (y_rng1 (y_cons ?_))))
  walk_at "wp"
  refine ⟨(q : Int), rfl, by omega, by omega, ?_⟩
  rw [Int.toNat_natCast]
  refine w_loopR q (fun j d S' => ∃ x4 m', d = [some (.loc n), some (.str l), some (.int m), some (.int (q : Nat)), x4] ∧ DeskAt n a (mvD l (q - j)) (mvA l (q - j)) m' S') ?_ ?_ _ _ ⟨_, _, rfl, h2⟩
  · rintro j d S3 hj ⟨x4, m', rfl, h3⟩
    obtain ⟨t3, kn3, ls3, hn3, _, _, _, _⟩ := id h3
    refine ⟨_, rfl, ?_⟩
    refine w_seq (w_expr (y_meth ?_))
    walk_at "wp"
    refine ⟨ins_ok hn3 rfl, ?_⟩
    walk_at "wp"
    have ej : q - j = (q - (j + 1)) + 1 := by omega
    rw [ej, mvA_next] at h3
    refine ⟨rfl, (undo_some (k := k + 3) h3).mono ?_⟩
    rintro _ S4 ⟨h4, f4⟩
    obtain ⟨t4, kn4, ls4, hn4, _, _, _, _⟩ := id h4
    refine w_if (y_B (y_f2 (y_meth ?_)))
    walk_at "wp"
    refine ⟨ins_ok hn4 rfl, ?_⟩
    walk_at "wp"
    refine ⟨rfl, lab h4 ?_⟩
    walk_at "wp"
    refine y_modI (by decide) ?_
    refine y_mv (i := q - (j + 1)) (by omega) ?_
    walk_at "wp"
    refine y_neSelf (lp _) (by decide) rfl ?_
    walk_at "wp"
    refine ite_b (fun z => by cases z) (fun _ => ?_)
    exact w_nop ⟨_, _, rfl, h4⟩
  rintro d S3 ⟨x4, m', rfl, h3⟩
  rw [Nat.sub_self] at h3
  obtain ⟨t3, kn3, ls3, hn3, _, _, _, _⟩ := id h3
  refine w_seq (w_expr (y_meth ?_))
  walk_at "wp"
  refine ⟨ins_ok hn3 rfl, ?_⟩
  walk_at "wp"
  have h3' : DeskAt n a (mvD l 0) ([] ++ [[]]) m' S3 := h3
  refine ⟨rfl, (undo_some (k := k + 3) h3').mono ?_⟩
  rintro _ S4 ⟨h4, f4⟩
  obtain ⟨t4, kn4, ls4, hn4, _, _, _, _⟩ := id h4
  refine w_ret (y_andV (y_f2 (y_meth ?_)))
  walk_at "wp"
  refine ⟨ins_ok hn4 rfl, ?_⟩
  walk_at "wp"
  refine ⟨rfl, (desk_labels (k := k + 3) h4 (by decide)).mono ?_⟩
  rintro _ _ ⟨rfl, rfl⟩
  rw [show labU [] = .lst [] from by unfold labU; rw [show ([] : Dk).map (·.1) = [] from rfl, sort_nil]; rfl]
  walk_at "wp"
  refine y_eqSelf (c := 100) (n := 3) (plB_ok (by decide +kernel)) (by decide) rfl ?_
  walk_at "wp"
  refine ite_b (fun _ => ?_) (fun z => by cases z)
  walk_at "wp"
  refine ⟨rfl, (told_undo0 (k := k + 1) h4).mono ?_⟩
  rintro _ _ ⟨rfl, rfl⟩
  walk_at "wp"
  refine y_eqSelf (c := 100) (n := 3) (u := dueE (noLab "undo")) (plB_ok (by decide +kernel)) (by decide) rfl ?_
  rfl
theorem pl_tup {c n : Nat} {us : List U} (hl : us.length ≤ c) (h : ∀ v ∈ us, Pl c n v) : Pl c (n + 1) (.tup us) := by
  unfold Pl
  exact ⟨hl, h⟩
theorem pl_lst {c n : Nat} {us : List U} (hl : us.length ≤ c) (h : ∀ v ∈ us, Pl c n v) : Pl c (n + 1) (.lst us) := by
  unfold Pl
  exact ⟨hl, h⟩
theorem pl_nil {c n : Nat} : ∀ v ∈ ([] : List U), Pl c n v := fun v h => by cases h
theorem pl_cons {c n : Nat} {u : U} {us : List U} (h : Pl c n u) (r : ∀ v ∈ us, Pl c n v) : ∀ v ∈ u :: us, Pl c n v := fun v hv => by
  rcases List.mem_cons.mp hv with rfl | hv
  · exact h
  · exact r v hv
theorem bad_pl {l : Str} {u : U} (hl : WB l) (h : u ∈ badL l) : Pl 100 61 u := by
  have pl : Pl 100 60 (.str l) := Pl.strs (wb_str hl)
  unfold badL at h
  simp only [List.mem_cons, List.mem_nil_iff, or_false] at h
  rcases h with rfl | rfl | rfl | rfl | rfl | rfl | rfl | rfl | rfl | rfl | rfl | rfl | rfl | rfl | rfl | rfl | rfl | rfl | rfl | rfl <;>
    first
    | exact plB_ok (by decide +kernel)
    | exact pl_lst (by show 2 ≤ 100; decide) (pl_cons (plB_ok (by decide +kernel)) (pl_cons pl pl_nil))
    | exact pl_tup (by show 2 ≤ 100; decide) (pl_cons (plB_ok (by decide +kernel)) (pl_cons pl pl_nil))
    | exact pl_tup (by show 3 ≤ 100; decide) (pl_cons (plB_ok (by decide +kernel)) (pl_cons pl (pl_cons (plB_ok (by decide +kernel)) pl_nil)))
    | exact pl_tup (by show 4 ≤ 100; decide) (pl_cons (plB_ok (by decide +kernel)) (pl_cons pl (pl_cons (plB_ok (by decide +kernel)) (pl_cons (plB_ok (by decide +kernel)) pl_nil))))
    | exact pl_tup (by show 5 ≤ 100; decide) (pl_cons (plB_ok (by decide +kernel)) (pl_cons pl (pl_cons (plB_ok (by decide +kernel)) (pl_cons (plB_ok (by decide +kernel)) (pl_cons (plB_ok (by decide +kernel)) pl_nil)))))
theorem rw_pl {ws : List Str} {r : Rw} (hw : ∀ w ∈ ws, WB w) (h : r.Ok ws) : Pl 100 61 r.u := by
  cases r with
  | put l sd x => exact pl_tup (by show 4 ≤ 100; decide) (pl_cons (plB_ok (by decide +kernel)) (pl_cons (Pl.strs (wb_str (hw l h.1))) (pl_cons (side_pl h.2.1) (pl_cons (say60 h.2.2.1 h.2.2.2.1) pl_nil))))
  | drop l => exact pl_tup (by show 2 ≤ 100; decide) (pl_cons (plB_ok (by decide +kernel)) (pl_cons (Pl.strs (wb_str (hw l h))) pl_nil))
  | move l => exact pl_tup (by show 2 ≤ 100; decide) (pl_cons (plB_ok (by decide +kernel)) (pl_cons (Pl.strs (wb_str (hw l h))) pl_nil))
theorem rows_pl {ws : List Str} {l : Str} {rows : List RowX} (hw : ∀ w ∈ ws, WB w) (hl : l ∈ ws) (h : ∀ x ∈ rows, x.Ok ws l) (hn : rows.length ≤ 9) : Pl 100 62 (.lst (rows.map RowX.u)) := by
  refine pl_lst (by rw [List.length_map]; omega) fun u hu => ?_
  obtain ⟨x, hx, rfl⟩ := List.mem_map.mp hu
  have := h x hx
  cases x with
  | good r => exact rw_pl hw this
  | bad u => exact bad_pl (hw l hl) this
theorem due_lab {ws : List Str} {l : Str} (hw : ∀ w ∈ ws, WB w) (h : l ∈ ws) : Pl 100 3 (dueE (noLab l)) := pl_tup (by show 2 ≤ 100; decide) (pl_cons (show Pl 100 2 (.str "label") from plB_ok (by decide +kernel)) (pl_cons (Pl.strs (wb_str (hw l h))) pl_nil))
theorem due_row (j : Nat) : Pl 100 3 (dueE (noRow j)) := pl_tup (by show 2 ≤ 100; decide) (pl_cons (show Pl 100 2 (.str "row") from plB_ok (by decide +kernel)) (pl_cons (by unfold noRow Pl; trivial) pl_nil))
structure Std (n a s5 : Nat) (ws : List Str) (D : Dk) (As : List Dk) (m : Int) (S : Sto) : Prop where
  dk : DeskAt n a D As m S
  st : S[s5]? = some (.lst ((As ++ [D]).map dkU))
  na : s5 ≠ a
  nn : s5 ≠ n
  ok : ∀ E ∈ As ++ [D], DkOk ws E
  h0 : (As ++ [D])[0]? = some []
theorem hd_app {L M : List Dk} (h : L[0]? = some []) : (L ++ M)[0]? = some [] := by
  cases L with
  | nil => cases h
  | cons a L => exact h
theorem hd_pre {L : List Dk} {E F : Dk} (h : (L ++ [E] ++ [F])[0]? = some []) : (L ++ [E])[0]? = some [] := by
  cases L with
  | nil => exact h
  | cons a L => exact h
theorem dk_tape {D : Dk} {cs : List Int} {sp lf : Int} (h : dkO D = tapeO cs sp lf) : False := by
  unfold dkO tapeO at h
  injection h with h1 h2
  cases D with
  | nil => cases h2
  | cons p D =>
    injection h2 with h3 h4
    cases h3
theorem DeskAt.tp {n a tp : Nat} {D : Dk} {As : List Dk} {m : Int} {b : Int} {S : Sto} (h : DeskAt n a D As m S) (t0 : Tape tp b S) : tp ≠ n ∧ tp ≠ a := by
  obtain ⟨t, kn, ls, hn, ht, ha, hls, hkn⟩ := h
  obtain ⟨cs, sp, lf, h1, -⟩ := t0
  exact ⟨fun e => (by rw [e, hn] at h1; cases h1), fun e => by rw [e, ha] at h1; cases h1⟩
theorem desk_fr {n a tp : Nat} {D : Dk} {As : List Dk} {m : Int} {b : Int} {S S' : Sto} (h : DeskAt n a D As m S) (t0 : Tape tp b S) (f : Fr [tp] S S') : DeskAt n a D As m S' := by
  obtain ⟨q1, q2⟩ := DeskAt.tp h t0
  obtain ⟨t, kn, ls, hn, ht, ha, hls, hkn⟩ := h
  obtain ⟨cs, sp, lf, h1, -⟩ := t0
  have hd : ∀ (l : Nat) (E : Dk), S[l]? = some (dkO E) → l ≠ tp := fun l E q e => by
    rw [e, h1] at q
    exact dk_tape (Option.some.inj q).symm
  refine ⟨t, kn, ls, f.get hn (by simpa using Ne.symm q1), f.get ht (by simpa using hd t D ht), f.get ha (by simpa using Ne.symm q2), hls.fr f (fun l hl => ?_), f.get hkn ?_⟩
  · obtain ⟨E, q⟩ := hls.off hl
    simpa using hd l E q
  · have : kn ≠ tp := hd kn [] hkn
    simpa using this
theorem Std.fr {n a s5 tp : Nat} {ws : List Str} {D : Dk} {As : List Dk} {m b : Int} {S S' : Sto} (h : Std n a s5 ws D As m S) (t0 : Tape tp b S) (f : Fr [tp] S S') : Std n a s5 ws D As m S' := by
  refine ⟨desk_fr h.dk t0 f, f.get h.st ?_, h.na, h.nn, h.ok, h.h0⟩
  obtain ⟨cs, sp, lf, h1, -⟩ := t0
  have : s5 ≠ tp := fun e => by have q := h.st; rw [e, h1] at q; cases q
  simpa using this
theorem desk_init {k n : Nat} {S : Sto} (h : S[n]? = some (.ins "Desk" [])) : Y (call (k + 1) i_Desk___init__ [.loc n] S) fun r S' => r = .non ∧ ∃ a, DeskAt n a [] [] 0 S' ∧ S.length ≤ a ∧ a < S'.length ∧ Fr [n] S S' := by
  have hn := (List.getElem?_eq_some_iff.mp h).1
  refine y_run ?_
  show WS (b_Desk___init__ (call k) [some (.loc n)] S) _
  unfold b_Desk___init__
  refine w_seq (w_putFQ (n := n) (fs := []) rfl (by decide) (y_dlocG (Y.of (show dNew _ S = .ok ([], []) S from rfl) ?_)))
  intro t S1 et h1 l1 f1
  have h1 : S1[t]? = some (dkO []) := h1
  refine ⟨f1.get h (by simp), fun S2 h2 l2 f2 => ?_⟩
  refine w_seq (w_putFQ (n := n) (fs := [("there", .loc t)]) rfl (by show 1 < 1000; decide) (y_locG ?_))
  walk_at "wp"
  intro a S3 ea h3 l3 f3
  refine ⟨f3.get h2 (by simp), fun S4 h4 l4 f4 => ?_⟩
  refine w_seq (w_putFQ (n := n) (fs := [("there", .loc t), ("ahead", .loc a)]) rfl (by show 2 < 1000; decide) ?_)
  walk_at "wp"
  refine ⟨h4, fun S5 h5 l5 f5 => ?_⟩
  refine w_putFQ (n := n) (fs := [("there", .loc t), ("ahead", .loc a), ("many", .int 0)]) rfl (by show 3 < 1000; decide) (y_dlocG (Y.of (show dNew _ S5 = .ok ([], []) S5 from rfl) ?_))
  intro kn S6 ek h6 l6 f6
  have h6 : S6[kn]? = some (.dic [] []) := h6
  refine ⟨f6.get h5 (by simp), fun S7 h7 l7 f7 => ?_⟩
  have e1 := f1.1
  have e3 := f3.1
  have ht7 : S7[t]? = some (dkO []) := f7.get (f6.get (f5.get (f4.get (f3.get (f2.get h1 (by simp only [List.mem_singleton]; omega)) (by simp)) (by simp only [List.mem_singleton]; omega)) (by simp only [List.mem_singleton]; omega)) (by simp)) (by simp only [List.mem_singleton]; omega)
  have ha7 : S7[a]? = some (.lst (([] : List Nat).map .loc)) := f7.get (f6.get (f5.get (f4.get h3 (by simp only [List.mem_singleton]; omega)) (by simp only [List.mem_singleton]; omega)) (by simp)) (by simp only [List.mem_singleton]; omega)
  have hk7 : S7[kn]? = some (.dic [] []) := f7.get h6 (by simp only [List.mem_singleton]; omega)
  refine ⟨rfl, a, ⟨t, kn, [], h7, ht7, ha7, ⟨rfl, fun i l D h => by cases h⟩, hk7⟩, by omega, (List.getElem?_eq_some_iff.mp ha7).1, ?_⟩
  exact ((((((f1.more (by simp)).trans f2).trans (f3.more (by simp))).trans f4).trans f5).trans (f6.more (by simp))).trans f7
section
variable {n tp : Nat} {l : Str} {wr wn : List Str} {xs : List Say} {x0 x8 x9 x10 x11 x12 x13 x14 x15 : Option U}
theorem two_of (As : List Dk) (D : Dk) : (As ++ [D]).length = As.length + 1 := by rw [List.length_append]; rfl
theorem turn_end {a s5 : Nat} {D : Dk} {As : List Dk} {m : Int} {S : Sto} {DD : EU} {y1 y2 y3 y7 y8 y9 y10 y11 y12 y13 y14 y15 : Option U} (hw : ∀ w ∈ l :: wr, WB w) (hws : (l :: wr).length ≤ 7) (h : Std n a s5 (l :: wr) D As m S)
    (q : DD.nx [x0, y1, y2, y3, some (.loc n), some (.loc s5), some (.int m), y7, y8, y9, y10, y11, y12, y13, y14, y15] S) :
    WS (fIfS (fNot (fTru (fCall 3 (call 89 i_law_right) (aCons (fVar 4) (aCons (fVar 5) (aCons (fVar 6) aNil)))))) (fRet (fC (.bl false))) fNop [x0, y1, y2, y3, some (.loc n), some (.loc s5), some (.int m), y7, y8, y9, y10, y11, y12, y13, y14, y15] S) DD := by
  have hD := h.ok D (by simp)
  have hl := hD.len
  refine w_if ?_
  walk_at "wp"
  refine ⟨rfl, (law_right (k := 87) hw hD (by omega) h.dk h.st).mono ?_⟩
  rintro _ _ ⟨rfl, rfl⟩
  walk_at "wp"
  refine ite_b (fun z => by cases z) (fun _ => ?_)
  exact w_nop q
def After (n tp : Nat) (ws : List Str) (x0 y1 y2 y3 : Option U) (b : Int) (c : Nat) (d : En) (S : Sto) : Prop :=
  ∃ (a s5 : Nat) (D : Dk) (As : List Dk) (m : Int) (y7 y8 y9 y10 y11 y12 y13 y14 y15 : Option U), d = [x0, y1, y2, y3, some (.loc n), some (.loc s5), some (.int m), y7, y8, y9, y10, y11, y12, y13, y14, y15] ∧ Std n a s5 ws D As m S ∧ As.length ≤ c ∧ Tape tp b S
theorem y_aSl {f : FE} {l h' : FO} {d : En} {S : Sto} {QA : List U → Sto → Prop} (h : Y (f d S) fun u S1 => Y (l d S1) fun lo S2 => Y (h' d S2) fun hi S3 => ∃ us, DL.listOf u S3 = some us ∧ QA (cutU us lo hi) S3) : Y (aSl f l h' d S) QA :=
  y_bind (h.mono fun u S1 h1 => y_bind (h1.mono fun lo S2 h2 => y_bind (h2.mono fun hi S3 ⟨us, e, q⟩ => by simp only [e]; exact ⟨q⟩)))
theorem y_neNN {S : Sto} {Q : U → Sto → Prop} (h : Q (.bl false) S) : Y (neU .non .non S) Q := y_neF rfl h
set_option maxHeartbeats 4000000 in
theorem turn {a s5 : Nat} {D : Dk} {As : List Dk} {m b : Int} {S : Sto} {x7 : Option U} (hw : ∀ w ∈ l :: wr, WB w) (hws : (l :: wr).length = 7) (hx0 : 0 < xs.length) (hx1 : xs.length ≤ 6) (hx : ∀ x ∈ xs, x.On WB ∧ x.deep ≤ 6 ∧ x.parts ≤ 7)
    (h : Std n a s5 (l :: wr) D As m S) (t0 : Tape tp b S) (hb : b + 3000 ≤ 2 ^ 100) (hA : As.length ≤ 1000) :
    WS ((fun (c : Nat → List U → Sto → R U) => ((fSeq (fSet 8 (fCall 2 (c i_law_draw) (aCons (fVar 1) (aCons (fC (.int 6)) aNil))))
    (fSeq (fIfS (fB (f2 eqU (fVar 8) (fC (.int 0)))) (fSeq (fSet 10 (fIf (fB (f2 gtU (fA lenC (aCons (fVar 5) aNil)) (fC (.int 1)))) (fC .non) (fTup (aCons (fC (.str "label")) (aCons (fC (.str "undo")) aNil)))))
    (fSeq (fIfS (fB (f2 neU (fCall 3 (c i_law_told) (aCons (fVar 4) (aCons (fC (.str "undo")) (aCons (fTup aNil) aNil)))) (fVar 10))) (fRet (fC (.bl false))) fNop)
    (fSeq (fSet 6 (f2 addU (fVar 6) (fA intC (aCons (f2 isU (fVar 10) (fC .non)) aNil))))
    (fSet 5 (fLoc (aSl (fVar 5) oNone (oSome (fA maxC (aCons (fC (.int 1)) (aCons (f2 subU (fA lenC (aCons (fVar 5) aNil)) (fC (.int 1))) aNil)))))))))) (fIfS (fB (f2 eqU (fVar 8) (fC (.int 1)))) (fSeq (fAsg (gTup 3 (gCons (DL.gN 11) (gCons (DL.gN 12) (gCons (DL.gN 10) gNil)))) (fCall 4 (c i_law_several) (aCons (fVar 1) (aCons (fSl (fVar 2) oNone (oSome (fC (.int 7)))) (aCons (fVar 3) (aCons (f2 ixU (fVar 5) (f1 negU (fC (.int 1)))) aNil))))))
    (fSeq (fSet 13 (fVal (fA listC (aCons (fVar 11) aNil))))
    (fSeq (fIfS (fOr (fB (f2 neU (fCall 3 (c i_law_told) (aCons (fVar 4) (aCons (fC (.str "several")) (aCons (fVar 11) aNil)))) (fVar 10))) (fB (f2 neU (fVar 11) (fVar 13)))) (fRet (fC (.bl false))) fNop)
    (fSeq (fSet 5 (fLoc (aAdd (fVar 5) (fVar 12))))
    (fSet 6 (f2 addU (fVar 6) (fA lenC (aCons (fVar 12) aNil)))))))) (fSeq (fSet 14 (fCall 3 (c i_law_desk_row) (aCons (fVar 1) (aCons (fSl (fVar 2) oNone (oSome (fC (.int 7)))) (aCons (fVar 3) aNil)))))
    (fSeq (fSet 12 (fCall 2 (c i_law_after) (aCons (f2 ixU (fVar 5) (f1 negU (fC (.int 1)))) (aCons (fVar 14) aNil))))
    (fSeq (fIfS (fB (f2 neU (fCall 3 (c i_law_told) (aCons (fVar 4) (aCons (f2 ixU (fVar 14) (fC (.int 0))) (aCons (fVar 14) aNil)))) (fIf (fB (f2 isU (fVar 12) (fC .non))) (fTup (aCons (fC (.str "label")) (aCons (f2 ixU (fVar 14) (fC (.int 1))) aNil))) (fC .non)))) (fRet (fC (.bl false))) fNop)
    (fSeq (fSet 5 (fLoc (aAdd (fVar 5) (fVal (aComp (aOver lstV (fVal (aLst (aCons (fVar 12) aNil)))) (DL.gN 15) (fB (f2 isnU (fVar 15) (fC .non))) (fVar 15) [15])))))
    (fSet 6 (f2 addU (fVar 6) (fA intC (aCons (f2 isnU (fVar 12) (fC .non)) aNil))))))))))
    (fIfS (fNot (fTru (fCall 3 (c i_law_right) (aCons (fVar 4) (aCons (fVar 5) (aCons (fVar 6) aNil)))))) (fRet (fC (.bl false))) fNop))) : FS)) (call 89) [x0, some (.loc tp), some (.lst ((l :: wr ++ wn).map .str)), some (.lst (xs.map Say.u)), some (.loc n), some (.loc s5), some (.int m), x7, x8, x9, x10, x11, x12, x13, x14, x15] S)
      { rt := fun _ _ => False, nx := After n tp (l :: wr) x0 (some (.loc tp)) (some (.lst ((l :: wr ++ wn).map .str))) (some (.lst (xs.map Say.u))) (b + 3000) (As.length + 9) } := by
  have hlw : l ∈ l :: wr := List.mem_cons_self
  have h7 : (l :: wr).length ≤ 7 := Nat.le_of_eq hws
  have etake : cutU ((l :: wr ++ wn).map U.str) none (some 7) = (l :: wr).map U.str := by
    rw [show (some 7 : Option Int) = some ((7 : Nat) : Int) from rfl, cut_pre, List.map_append, List.take_append_of_le_length (by rw [List.length_map, hws]; exact Nat.le_refl _), List.take_of_length_le (by rw [List.length_map, hws]; exact Nat.le_refl _)]
  have goal : ∀ {a s5 : Nat} {D : Dk} {As' : List Dk} {m b' : Int} {S' : Sto} {y7 y8 y9 y10 y11 y12 y13 y14 y15 : Option U}, Std n a s5 (l :: wr) D As' m S' → As'.length ≤ As.length + 9 → Tape tp b' S' → b' ≤ b + 3000 →
      After n tp (l :: wr) x0 (some (.loc tp)) (some (.lst ((l :: wr ++ wn).map .str))) (some (.lst (xs.map Say.u))) (b + 3000) (As.length + 9) [x0, some (.loc tp), some (.lst ((l :: wr ++ wn).map .str)), some (.lst (xs.map Say.u)), some (.loc n), some (.loc s5), some (.int m), y7, y8, y9, y10, y11, y12, y13, y14, y15] S' :=
    fun h1 h2 h3 h4 => ⟨_, _, _, _, _, _, _, _, _, _, _, _, _, _, rfl, h1, h2, h3.mono h4⟩
  dsimp only
  refine w_seq (w_set ?_)
  walk_at "wp"
  refine ⟨rfl, (draw t0 (by omega) (by decide) (by decide)).mono ?_⟩
  rintro _ S1 ⟨r1, rfl, r10, r11, t1, l1, g1⟩
  have h1 := h.fr t0 g1
  refine w_seq (w_if ?_)
  walk_at "wp"
  refine ite_b (fun c => ?_) (fun c => ?_)
  · -- undo
    have hlt5 := (List.getElem?_eq_some_iff.mp h1.st).1
    rcases List.eq_nil_or_concat As with e | ⟨As', E, e⟩
    · subst e
      refine w_seq (w_set (y_if ?_))
      walk_at "wp"
      refine y_lenLc h1.st ?_
      walk_at "wp"
      refine ite_b (fun z => by exfalso; have z := of_decide_eq_true z; rw [List.length_map] at z; simp at z) (fun _ => ?_)
      walk_at "wp"
      refine w_if ?_
      walk_at "wp"
      refine ⟨rfl, (told_undo0 (k := 86) h1.dk).mono ?_⟩
      rintro _ _ ⟨rfl, rfl⟩
      walk_at "wp"
      refine y_neSelf (c := 100) (n := 3) (u := dueE (noLab "undo")) (plB_ok (by decide +kernel)) (by decide) rfl ?_
      walk_at "wp"
      refine ite_b (fun z => by cases z) (fun _ => ?_)
      refine w_nop (w_seq (w_set ?_))
      walk_at "wp"
      refine y_intB ?_
      refine y_addI ?_
      refine w_set (y_locG (y_aSl ?_))
      walk_at "wp"
      refine y_lenLc h1.st ?_
      walk_at "wp"
      refine y_max ?_
      rw [List.length_map]
      refine ⟨1, rfl, _, lm_loc h1.st, ?_⟩
      intro s6 S2 e6 h6 l2 f2
      have hh : Std n a s6 (l :: wr) D [] m S2 := ⟨h1.dk.fr f2, by rw [h6]; rfl, by
        obtain ⟨t, kn, ls, hn, ht, ha, hls, hkn⟩ := h1.dk
        have := (List.getElem?_eq_some_iff.mp ha).1
        omega, by
        obtain ⟨t, kn, ls, hn, ht, ha, hls, hkn⟩ := h1.dk
        have := (List.getElem?_eq_some_iff.mp hn).1
        omega, h1.ok, h1.h0⟩
      refine turn_end hw h7 (m := m + 0) (by rw [Int.add_zero]; exact hh) ?_
      rw [Int.add_zero]
      exact goal hh (by omega) (t1.fr f2 (by simp)) (by omega)
    · rw [List.concat_eq_append] at e
      subst e
      refine w_seq (w_set (y_if ?_))
      walk_at "wp"
      refine y_lenLc h1.st ?_
      walk_at "wp"
      refine ite_b (fun _ => ?_) (fun z => by exfalso; have z := of_decide_eq_false z; rw [List.length_map, two_of, two_of] at z; omega)
      walk_at "wp"
      refine w_if ?_
      walk_at "wp"
      refine ⟨rfl, (told_undo (k := 86) h1.dk).mono ?_⟩
      rintro _ S2 ⟨rfl, hd2, f2⟩
      walk_at "wp"
      refine y_neNN ?_
      walk_at "wp"
      refine ite_b (fun z => by cases z) (fun _ => ?_)
      have h52 := f2.get h1.st (by have := h1.na; have := h1.nn; simp [*])
      have t2 := t1.fr f2 (by have := DeskAt.tp h1.dk t1; simp [this.1, this.2])
      refine w_nop (w_seq (w_set ?_))
      walk_at "wp"
      refine y_intB ?_
      refine y_addI ?_
      refine w_set (y_locG (y_aSl ?_))
      walk_at "wp"
      refine y_lenLc h52 ?_
      walk_at "wp"
      refine y_max ?_
      rw [List.length_map]
      refine ⟨((As'.length + 1 : Nat) : Int), ?_, _, lm_loc h52, ?_⟩
      · show U.int (if _ > _ then _ else _) = _
        rw [two_of, two_of]
        congr 1
        split <;> omega
      intro s6 S3 e6 h6 l3 f3
      have hlt2 := (List.getElem?_eq_some_iff.mp h52).1
      have hh : Std n a s6 (l :: wr) E As' (m + 1) S3 := ⟨hd2.fr f3, by
        rw [h6, cut_pre, List.map_append, List.take_append_of_le_length (by rw [List.length_map, two_of]; exact Nat.le_refl _), List.take_of_length_le (by rw [List.length_map, two_of]; exact Nat.le_refl _)], by
        obtain ⟨t, kn, ls, hn, ht, ha, hls, hkn⟩ := hd2
        have := (List.getElem?_eq_some_iff.mp ha).1
        omega, by
        obtain ⟨t, kn, ls, hn, ht, ha, hls, hkn⟩ := hd2
        have := (List.getElem?_eq_some_iff.mp hn).1
        omega, fun F hF => h1.ok F (List.mem_append_left _ hF), hd_pre h1.h0⟩
      refine turn_end hw h7 hh ?_
      exact goal hh (by rw [two_of]; omega) (t2.fr f3 (by simp)) (by omega)
  refine w_if ?_
  walk_at "wp"
  have hlast : ((As ++ [D]).map dkU).getLast? = some (dkU D) := by rw [List.map_append]; exact List.getLast?_concat
  have hDk := h1.ok D (by simp)
  refine ite_b (fun c2 => ?_) (fun c2 => ?_)
  · -- several
    refine w_seq (w_asg ?_)
    walk_at "wp"
    refine ⟨_, rfl, ?_⟩
    walk_at "wp"
    refine y_slL ?_
    rw [etake]
    walk_at "wp"
    refine y_negI (y_ixLocN h1.st hlast ?_)
    walk_at "wp"
    refine ⟨rfl, (law_several (k := 85) t1 (by omega) hw h7 hx0 hx1 hx hDk).mono ?_⟩
    rintro _ S2 ⟨rows, rfl, hlen, hro, t2, f2⟩
    have h2 := h1.fr t1 f2
    cases es : sevR D rows 0 with
    | ok L =>
      rw [show sevU D rows = .tup [.lst (rows.map RowX.u), .lst (L.map dkU), .non] from by unfold sevU; rw [es]]
      refine ⟨_, rfl, ?_⟩
      refine w_seq (w_set (y_val (y_A (y_cons ?_))))
      walk_at "wp"
      refine Y.of (show listC [.lst (rows.map RowX.u)] S2 = .ok (rows.map RowX.u) S2 from rfl) ?_
      refine w_seq (w_if (y_or ?_))
      walk_at "wp"
      refine ⟨rfl, (told_several (k := 57) hw h7 hlw hro h2.dk hDk (by omega)).mono ?_⟩
      rintro v S3 ⟨q1, q2, f3⟩
      obtain ⟨rfl, hd3⟩ := q1 L es
      walk_at "wp"
      refine y_neNN ?_
      walk_at "wp"
      refine ite_b (fun z => by cases z) (fun _ => ?_)
      walk_at "wp"
      refine y_neSelf (rows_pl hw hlw hro hlen) (by decide) rfl ?_
      walk_at "wp"
      refine ite_b (fun z => by cases z) (fun _ => ?_)
      have h53 := f3.get h2.st (by have := h2.na; have := h2.nn; simp [*])
      have t3 := t2.fr f3 (by have := DeskAt.tp h2.dk t2; simp [this.1, this.2])
      obtain ⟨hLl, hLok⟩ := sev_ok hDk hro es
      refine w_nop (w_seq (w_set (y_locG (y_aAdd ?_))))
      walk_at "wp"
      refine ⟨_, _, lm_loc h53, rfl, by rw [List.length_map, List.length_map, two_of, sizeL]; omega, ?_⟩
      intro s6 S4 e6 h6 l4 f4
      refine w_set ?_
      walk_at "wp"
      refine y_lenL ?_
      rw [List.length_map]
      refine y_addI ?_
      obtain ⟨D2, As2, eL, hd4⟩ := hd3
      have hlt3 := (List.getElem?_eq_some_iff.mp h53).1
      have eLs : (As ++ [D]) ++ L = As2 ++ [D2] := by rw [← eL, List.append_assoc]; rfl
      have hlen2 : As2.length = As.length + L.length := by
        have := congrArg List.length eLs
        rw [List.length_append, two_of, two_of] at this
        omega
      have hh : Std n a s6 (l :: wr) D2 As2 (m + (L.length : Nat)) S4 := ⟨hd4.fr f4, by
        rw [h6, ← eLs, List.map_append (l₁ := As ++ [D])], by
        obtain ⟨t, kn, ls, hn, ht, ha, hls, hkn⟩ := hd4
        have := (List.getElem?_eq_some_iff.mp ha).1
        omega, by
        obtain ⟨t, kn, ls, hn, ht, ha, hls, hkn⟩ := hd4
        have := (List.getElem?_eq_some_iff.mp hn).1
        omega, fun F hF => by
        rw [← eLs] at hF
        rcases List.mem_append.mp hF with hF | hF
        · exact h1.ok F hF
        · exact hLok F hF, by rw [← eLs]; exact hd_app h1.h0⟩
      refine turn_end hw h7 hh ?_
      exact goal hh (by omega) (t3.fr f4 (by simp)) (by omega)
    | error x =>
      rw [show sevU D rows = refU (rows.map RowX.u) x from by unfold sevU; rw [es]]
      refine ⟨_, rfl, ?_⟩
      refine w_seq (w_set (y_val (y_A (y_cons ?_))))
      walk_at "wp"
      refine Y.of (show listC [.lst (rows.map RowX.u)] S2 = .ok (rows.map RowX.u) S2 from rfl) ?_
      refine w_seq (w_if (y_or ?_))
      walk_at "wp"
      refine ⟨rfl, (told_several (k := 57) hw h7 hlw hro h2.dk hDk (by omega)).mono ?_⟩
      rintro v S3 ⟨q1, q2, f3⟩
      obtain ⟨rfl, a', hd3, ha'⟩ := q2 x es
      walk_at "wp"
      have px : Pl 100 3 (dueE x) := by
        rcases sev_err hro es with ⟨l', hl', rfl⟩ | ⟨j, rfl⟩
        · exact due_lab hw hl'
        · exact due_row j
      refine y_neSelf (u := dueE x) px (by decide) rfl ?_
      walk_at "wp"
      refine ite_b (fun z => by cases z) (fun _ => ?_)
      walk_at "wp"
      refine y_neSelf (rows_pl hw hlw hro hlen) (by decide) rfl ?_
      walk_at "wp"
      refine ite_b (fun z => by cases z) (fun _ => ?_)
      have h53 := f3.get h2.st (by have := h2.na; have := h2.nn; simp [*])
      have t3 := t2.fr f3 (by have := DeskAt.tp h2.dk t2; simp [this.1, this.2])
      refine w_nop (w_seq (w_set (y_locG (y_aAdd ?_))))
      walk_at "wp"
      refine ⟨_, _, lm_loc h53, rfl, by rw [List.length_map, two_of, List.length_nil, sizeL]; omega, ?_⟩
      intro s6 S4 e6 h6 l4 f4
      refine w_set ?_
      walk_at "wp"
      refine y_lenL ?_
      refine y_addI ?_
      have hlt3 := (List.getElem?_eq_some_iff.mp h53).1
      have hh : Std n a' s6 (l :: wr) D As m S4 := ⟨hd3.fr f4, by
        rw [h6, List.append_nil], by
        obtain ⟨t, kn, ls, hn, ht, ha, hls, hkn⟩ := hd3
        have := (List.getElem?_eq_some_iff.mp ha).1
        omega, by
        obtain ⟨t, kn, ls, hn, ht, ha, hls, hkn⟩ := hd3
        have := (List.getElem?_eq_some_iff.mp hn).1
        omega, h1.ok, h1.h0⟩
      refine turn_end hw h7 (m := m + 0) (by rw [Int.add_zero]; exact hh) ?_
      rw [Int.add_zero]
      exact goal hh (by omega) (t3.fr f4 (by simp)) (by omega)
  -- one row
  refine w_seq (w_set ?_)
  walk_at "wp"
  refine ⟨_, rfl, ?_⟩
  walk_at "wp"
  refine y_slL ?_
  rw [etake]
  walk_at "wp"
  refine ⟨rfl, (law_desk_row (k := 87) t1 (by omega) (by rw [hws]; decide) h7 hx0 hx1 hx).mono ?_⟩
  rintro _ S2 ⟨r, rfl, hr, t2, f2⟩
  have h2 := h1.fr t1 f2
  refine w_seq (w_set ?_)
  walk_at "wp"
  refine y_negI (y_ixLocN h2.st hlast ?_)
  walk_at "wp"
  refine ⟨rfl, (law_after (k := 88) hDk hr h7).mono ?_⟩
  rintro _ S3 ⟨rfl, f3⟩
  have h3 : Std n a s5 (l :: wr) D As m S3 := ⟨h2.dk.fr f3, f3.get h2.st (by simp), h2.na, h2.nn, h2.ok, h2.h0⟩
  have t3 := t2.fr f3 (by simp)
  have hrt : ∃ z rest, r.u = .tup (.str z :: rest) ∧ r.word = z ∧ rest[0]? = some (.str r.lab) := by
    cases r with
    | put l sd x => exact ⟨_, _, rfl, rfl, rfl⟩
    | drop l => exact ⟨_, _, rfl, rfl, rfl⟩
    | move l => exact ⟨_, _, rfl, rfl, rfl⟩
  obtain ⟨z, rest, eu, ez, elb⟩ := hrt
  have ht := told_row (k := 85) (r := r) h3.dk hDk h7 (by omega)
  rw [ez] at ht
  have e1 : ixB (.tup (.str z :: rest)) (.int 1) S3 = some (.str r.lab) := by
    show atI (.str z :: rest) 1 = _
    cases rest with
    | nil => cases elb
    | cons w r' => cases elb; exact atI_nat (j := 1) rfl
  refine w_seq (w_if (y_B (y_f2 ?_)))
  walk_at "wp"
  rw [eu] at ht ⊢
  refine y_ixT0 ?_
  walk_at "wp"
  refine ⟨rfl, ht.mono ?_⟩
  rintro v S4 ⟨rfl, q1, q2, f4⟩
  have h54 := f4.get h3.st (by have := h3.na; have := h3.nn; simp [*])
  have t4 := t3.fr f4 (by have := DeskAt.tp h3.dk t3; simp [this.1, this.2])
  have hlt4 := (List.getElem?_eq_some_iff.mp h54).1
  cases ea : aft D r with
  | none =>
    refine y_if ?_
    walk_at "wp"
    refine ite_b (fun _ => ?_) (fun z => by cases z)
    walk_at "wp"
    refine y_ix e1 ?_
    walk_at "wp"
    refine y_neSelf (u := dueE (noLab r.lab)) (due_lab hw (rw_lab hr)) (by decide) rfl ?_
    walk_at "wp"
    refine ite_b (fun z => by cases z) (fun _ => ?_)
    have e4 := q2 ea
    subst e4
    refine w_nop (w_seq (w_set (y_locG (y_aAdd ?_))))
    walk_at "wp"
    refine ⟨_, rfl, ?_⟩
    refine y_compFM (fun u => !isNon u) (fun u => u) [.non] [] (fun u hu => ?_) (by decide +kernel) ?_
    · rw [List.mem_singleton.mp hu]
      exact ⟨_, rfl, y_B (y_f2 (y_var rfl (y_C (y_isnN (y_unB ⟨rfl, rfl⟩))))), fun z => by cases z⟩
    refine ⟨_, _, lm_loc h54, rfl, by rw [List.length_map, two_of, sizeL]; show As.length + 1 + 0 ≤ _; omega, ?_⟩
    intro s6 S5 e6 h6 l5 f5
    refine w_set ?_
    walk_at "wp"
    refine y_intB ?_
    refine y_addI ?_
    have hh : Std n a s6 (l :: wr) D As m S5 := ⟨h3.dk.fr f5, by
      rw [h6]; exact congrArg (fun z => some (Ob.lst z)) (List.append_nil _), by
      obtain ⟨t, kn, ls, hn, ht, ha, hls, hkn⟩ := h3.dk
      have := (List.getElem?_eq_some_iff.mp ha).1
      omega, by
      obtain ⟨t, kn, ls, hn, ht, ha, hls, hkn⟩ := h3.dk
      have := (List.getElem?_eq_some_iff.mp hn).1
      omega, h1.ok, h1.h0⟩
    refine turn_end hw h7 (m := m + 0) (by rw [Int.add_zero]; exact hh) ?_
    rw [Int.add_zero]
    exact goal hh (by omega) (t4.fr f5 (by simp)) (by omega)
  | some E =>
    refine y_if ?_
    walk_at "wp"
    refine ite_b (fun z => by cases z) (fun _ => ?_)
    walk_at "wp"
    refine y_neNN ?_
    walk_at "wp"
    refine ite_b (fun z => by cases z) (fun _ => ?_)
    have hd4 := q1 E ea
    refine w_nop (w_seq (w_set (y_locG (y_aAdd ?_))))
    walk_at "wp"
    refine ⟨_, rfl, ?_⟩
    refine y_compFM (fun u => !isNon u) (fun u => u) [dkU E] [] (fun u hu => ?_) (by show 0 + 1 ≤ _; decide +kernel) ?_
    · rw [List.mem_singleton.mp hu]
      exact ⟨_, rfl, y_B (y_f2 (y_var rfl (y_C (y_isnN (y_unB ⟨rfl, rfl⟩))))), fun _ => y_var rfl ⟨rfl, rfl⟩⟩
    refine ⟨_, _, lm_loc h54, rfl, by rw [List.length_map, two_of, sizeL]; show As.length + 1 + 1 ≤ _; omega, ?_⟩
    intro s6 S5 e6 h6 l5 f5
    refine w_set ?_
    walk_at "wp"
    refine y_intB ?_
    refine y_addI ?_
    have hh : Std n a s6 (l :: wr) E (As ++ [D]) (m + 1) S5 := ⟨hd4.fr f5, by
      rw [h6, List.map_append (l₂ := [E])]; rfl, by
      obtain ⟨t, kn, ls, hn, ht, ha, hls, hkn⟩ := hd4
      have := (List.getElem?_eq_some_iff.mp ha).1
      omega, by
      obtain ⟨t, kn, ls, hn, ht, ha, hls, hkn⟩ := hd4
      have := (List.getElem?_eq_some_iff.mp hn).1
      omega, fun F hF => by
      rcases List.mem_append.mp hF with hF | hF
      · exact h1.ok F hF
      · rw [List.mem_singleton.mp hF]; exact aft_ok hDk hr ea, hd_app h1.h0⟩
    refine turn_end hw h7 hh ?_
    exact goal hh (by rw [two_of]; omega) (t4.fr f5 (by simp)) (by omega)
end
theorem desk_frL {n a s5 : Nat} {D : Dk} {As : List Dk} {m : Int} {us : List U} {S S' : Sto} (h : DeskAt n a D As m S) (h5 : S[s5]? = some (.lst us)) (na : s5 ≠ a) (nn : s5 ≠ n) (f : Fr [s5] S S') : DeskAt n a D As m S' := by
  obtain ⟨t, kn, ls, hn, ht, ha, hls, hkn⟩ := h
  have hd : ∀ (l : Nat) (E : Dk), S[l]? = some (dkO E) → l ≠ s5 := fun l E q e => by
    rw [e, h5] at q
    cases q
  refine ⟨t, kn, ls, f.get hn (by simpa using Ne.symm nn), f.get ht (by simpa using hd t D ht), f.get ha (by simpa using Ne.symm na), hls.fr f (fun l hl => ?_), f.get hkn ?_⟩
  · obtain ⟨E, q⟩ := hls.off hl
    simpa using hd l E q
  · have : kn ≠ s5 := hd kn [] hkn
    simpa using this
theorem rel_says {ws : List Str} {us ys : List U} (h : Rel2 (fun _ y => ∃ x : Say, y = x.u ∧ x.On WB ∧ x.deep ≤ 6 ∧ x.parts ≤ 7) us ys) : ∃ xs : List Say, ys = xs.map Say.u ∧ xs.length = us.length ∧ ∀ x ∈ xs, x.On WB ∧ x.deep ≤ 6 ∧ x.parts ≤ 7 := by
  induction h with
  | nil => exact ⟨[], rfl, rfl, fun x hx => by cases hx⟩
  | cons r t ih =>
    obtain ⟨xs, e, hl, ho⟩ := ih
    obtain ⟨x, rfl, hx⟩ := r
    refine ⟨x :: xs, by rw [e]; rfl, by rw [List.length_cons, List.length_cons, hl], fun y hy => ?_⟩
    rcases List.mem_cons.mp hy with rfl | hy
    · exact hx
    · exact ho y hy
set_option maxHeartbeats 4000000 in
theorem law_holds (ns : List Int) (hn : ns.length ≤ 63) : ∃ S', call 90 i_law [.frz (ns.map .int)] [] = .ok (.bl true) S' := by
  suffices h : Y (call 90 i_law [.frz (ns.map .int)] []) fun u _ => u = .bl true by
    obtain ⟨u, S', e, rfl⟩ := h.ok
    exact ⟨S', e⟩
  refine y_run ?_
  show WS (b_law (call 89) [some (.frz (ns.map .int)), none, none, none, none, none, none, none, none, none, none, none, none, none, none, none] []) _
  unfold b_law
  refine w_seq (w_set ?_)
  walk_at "wp"
  refine ⟨rfl, (tape (k := 88) ns hn []).mono ?_⟩
  rintro _ S0 ⟨rfl, t0, -⟩
  generalize List.length ([] : Sto) = tp at t0 ⊢
  refine w_seq (w_set ?_)
  walk_at "wp"
  refine ⟨rfl, (words (k := 87) (m := 10) t0 (by decide) (by decide)).mono ?_⟩
  rintro _ S1 ⟨ws, rfl, hws, hww, hnd, t1, f1⟩
  have hlen : ws.length = 10 := by exact_mod_cast hws
  have t1 : Tape tp 1500 S1 := t1.mono (by decide)
  have e6 : (((6 : Int).toNat : Nat) : Int) = 6 := rfl
  have hwb : ∀ w ∈ ws, WB w := fun w hw => wl_wb (hww w hw).1 (hww w hw).2
  -- seven labels, three names
  obtain ⟨l, wr, wn, e0, h7, h3⟩ : ∃ (l : Str) (wr wn : List Str), ws = l :: wr ++ wn ∧ (l :: wr).length = 7 ∧ wn.length = 3 := by
    match ws, hlen with
    | [a, b, c, d, e, f, g, h, i, j], _ => exact ⟨a, [b, c, d, e, f, g], [h, i, j], rfl, rfl, rfl⟩
  subst e0
  have hw7 : ∀ w ∈ l :: wr, WB w := fun w hw => hwb w (List.mem_append_left _ hw)
  have hw3 : ∀ w ∈ wn, WB w := fun w hw => hwb w (List.mem_append_right _ hw)
  have edrop : cutU ((l :: wr ++ wn).map U.str) (some 7) none = wn.map U.str := by
    rw [show (some 7 : Option Int) = some ((7 : Nat) : Int) from rfl, cut_suf, List.map_append, List.drop_append_of_le_length (by rw [List.length_map, h7]; exact Nat.le_refl _), List.drop_of_length_le (by rw [List.length_map, h7]; exact Nat.le_refl _), List.nil_append]
  refine w_seq (w_set (y_val (y_aComp (y_rng1 (y_cons ?_)))))
  walk_at "wp"
  refine ⟨6, rfl, by decide, by decide, ?_⟩
  have ec : cst 6 = 11430 := by decide
  refine (comp_draw (fun _ y => ∃ x : Say, y = x.u ∧ x.On WB ∧ x.deep ≤ 6 ∧ x.parts ≤ 7) 11430 (by decide) (rngU 0 1 (6 : Int).toNat) (by rw [rng_len]; decide) t1 (fun u hu b' S2 hb' t2 => ?_)).mono ?_
  · rw [rng_len, e6] at hb'
    refine ⟨_, rfl, ⟨rfl, rfl⟩, ?_⟩
    walk_at "wp"
    refine ⟨_, rfl, ?_⟩
    walk_at "wp"
    refine y_slL ?_
    rw [edrop]
    refine y_cons (y_locG ?_)
    walk_at "wp"
    intro f S3 ef hf l3 f3
    walk_at "wp"
    have hlt := t2.lt
    have t3 := t2.fr f3 (by simp)
    refine ⟨rfl, (saying (ws := wn) (L := 6) (show tp ≠ f by omega) (by omega) (by omega) 6 81 t3 (by rw [ec]; omega) hf).mono ?_⟩
    rintro _ S4 ⟨x, L', rfl, hx, hd, _, hL, hp, t4, f4⟩
    refine ⟨⟨x, rfl, hx.mono hw3, by omega, by have := hL (by decide); omega⟩, by rw [ec] at t4; exact t4, ?_⟩
    refine ⟨Nat.le_trans f3.1 f4.1, fun i hi hn => ?_⟩
    rw [f4.2 i (by have := f3.1; omega) (by simp only [List.mem_cons, List.mem_nil_iff, or_false] at hn ⊢; omega), f3.2 i hi (by simp)]
  rintro ys S2 ⟨hrel, t2, f2⟩
  rw [rng_len, e6] at t2
  obtain ⟨xs, rfl, hxl, hx⟩ := rel_says (ws := wn) hrel
  rw [rng_len] at hxl
  have hxl : xs.length = 6 := hxl
  refine w_seq (w_set (y_make ?_))
  walk_at "wp"
  have hins : (S2 ++ [Ob.ins "Desk" []])[S2.length]? = some (.ins "Desk" []) := sto_snoc
  refine ⟨rfl, (desk_init (k := 88) hins).mono ?_⟩
  rintro _ S3 ⟨rfl, a, hd3, ha3, ha3', f3⟩
  refine ⟨rfl, ?_⟩
  have t3 : Tape tp 80000 S3 := ((t2.fr (Fr.push (ms := [])) (by simp) : Tape tp _ (S2 ++ [Ob.ins "Desk" []])).fr f3 (by have := t2.lt; simp only [List.mem_singleton]; omega)).mono (by omega)
  generalize S2.length = n at hd3 f3 t3 ha3 hins ⊢
  refine w_seq (w_set (y_locG ?_))
  walk_at "wp"
  refine Y.of (show dNew _ S3 = .ok ([], []) S3 from rfl) ?_
  walk_at "wp"
  intro s5 S4 e5 h5 l4 f4
  have hn3 : n < S3.length := by
    obtain ⟨t, kn, ls, hn, -⟩ := hd3
    exact (List.getElem?_eq_some_iff.mp hn).1
  have hstd : Std n a s5 (l :: wr) [] [] 0 S4 := ⟨hd3.fr f4, h5, by omega, by omega, fun E hE => by
    have : E = [] := by simpa using hE
    subst this
    exact ⟨List.nodup_nil, fun p hp => (by cases hp), fun p hp => by cases hp⟩, rfl⟩
  have t4 := t3.fr f4 (by simp)
  refine w_seq (w_set ?_)
  walk_at "wp"
  refine ⟨rfl, (draw t4 (by decide) (by decide) (by decide)).mono ?_⟩
  rintro _ S5 ⟨r5, rfl, r50, r51, t5, l5, f5⟩
  walk_at "wp"
  refine ⟨r5, rfl, by omega, by omega, ?_⟩
  have h5' := hstd.fr t4 f5
  obtain ⟨q, rfl⟩ : ∃ q : Nat, r5 = (q : Int) := ⟨r5.toNat, by omega⟩
  rw [Int.toNat_natCast]
  have mono : ∀ {b b' : Int} {c c' : Nat} {y1 y2 y3 x0 : Option U} {d : En} {S : Sto}, b ≤ b' → c ≤ c' → After n tp (l :: wr) x0 y1 y2 y3 b c d S → After n tp (l :: wr) x0 y1 y2 y3 b' c' d S := fun hb hc ⟨a, s5, D, As, m, y7, y8, y9, y10, y11, y12, y13, y14, y15, e, h1, h2, h3⟩ => ⟨a, s5, D, As, m, y7, y8, y9, y10, y11, y12, y13, y14, y15, e, h1, Nat.le_trans h2 hc, h3.mono hb⟩
  refine w_loopR q (fun j d S => After n tp (l :: wr) (some (.frz (ns.map .int))) (some (.loc tp)) (some (.lst ((l :: wr ++ wn).map .str))) (some (.lst (xs.map Say.u))) (100000 + 3000 * (j : Int)) (9 * j) d S) ?_ ?_ _ _
    ⟨a, s5, [], [], 0, _, _, _, _, _, _, _, _, _, rfl, h5', Nat.zero_le _, t5.mono (by omega)⟩
  · rintro j d S hj ⟨a, s5, D, As, m, y7, y8, y9, y10, y11, y12, y13, y14, y15, rfl, h1, h2, h3⟩
    refine ⟨_, rfl, ?_⟩
    refine (turn hw7 h7 (by omega) (by omega) hx h1 h3 (by omega) (by omega)).mono ?_ (fun _ _ (q : False) => q.elim) (fun _ _ (q : False) => q.elim) (fun _ _ (q : False) => q.elim) (fun _ _ _ (q : False) => q.elim)
    exact fun d' S' h => mono (by omega) (by omega) h
  rintro d S ⟨a, s5, D, As, m, y7, y8, y9, y10, y11, y12, y13, y14, y15, rfl, h1, h2, h3⟩
  have hq : 9 * q ≤ 360 := by omega
  refine w_seq (w_while (fun k d S => ∃ (D : Dk) (As : List Dk) (m : Int), As.length = k ∧ d = [some (.frz (ns.map .int)), some (.loc tp), some (.lst ((l :: wr ++ wn).map .str)), some (.lst (xs.map Say.u)), some (.loc n), some (.loc s5), some (.int m), y7, y8, y9, y10, y11, y12, y13, y14, y15] ∧ Std n a s5 (l :: wr) D As m S ∧ Tape tp 300000 S) ?_ 1000000 As.length _ _ (by omega) ⟨D, As, m, rfl, rfl, h1, h3.mono (by omega)⟩)
  rintro k d S ⟨D, As, m, rfl, rfl, h1, h3⟩
  walk_at "wp"
  refine y_lenLc h1.st ?_
  rw [List.length_map]
  walk_at "wp"
  refine ite_b (fun c => ?_) (fun c => ?_)
  · have c := of_decide_eq_true c
    rw [two_of] at c
    rcases List.eq_nil_or_concat As with e | ⟨As', E, e⟩
    · rw [e] at c; simp at c
    rw [List.concat_eq_append] at e
    subst e
    refine w_seq (w_expr (y_M ?_))
    walk_at "wp"
    refine ⟨ty_list h1.st, ?_⟩
    walk_at "wp"
    refine y_popE (us := (As' ++ [E]).map dkU) (u := dkU D) (by rw [h1.st, List.map_append (l₁ := As' ++ [E])]; rfl) fun S1 hs1 l1 g1 => ?_
    have hd1 : DeskAt n a D (As' ++ [E]) m S1 := desk_frL h1.dk h1.st h1.na h1.nn g1
    have t1' : Tape tp 300000 S1 := h3.fr g1 (by
      have q := h1.st
      obtain ⟨cs, sp, lf, hh, -⟩ := h3
      have : tp ≠ s5 := fun e => by rw [e, q] at hh; cases hh
      simpa using this)
    refine w_seq (w_set ?_)
    walk_at "wp"
    refine w_if (y_or ?_)
    walk_at "wp"
    refine ⟨rfl, (told_undo (k := 86) hd1).mono ?_⟩
    rintro _ S2 ⟨rfl, hd2, g2⟩
    walk_at "wp"
    refine ite_b (fun z => by cases z) (fun _ => ?_)
    have h52 := g2.get hs1 (by have := h1.na; have := h1.nn; simp [*])
    have t2' : Tape tp 300000 S2 := t1'.fr g2 (by have := DeskAt.tp hd1 t1'; simp [this.1, this.2])
    have hok : ∀ F ∈ As' ++ [E], DkOk (l :: wr) F := fun F hF => h1.ok F (List.mem_append_left _ hF)
    have hE := hok E (by simp)
    have hEl := hE.len
    walk_at "wp"
    refine ⟨rfl, (law_right (k := 87) hw7 hE (by omega) hd2 h52).mono ?_⟩
    rintro _ _ ⟨rfl, rfl⟩
    walk_at "wp"
    refine ite_b (fun z => by cases z) (fun _ => ?_)
    exact w_nop ⟨As'.length, by rw [two_of]; omega, E, As', m + 1, rfl, rfl, ⟨hd2, h52, h1.na, h1.nn, hok, hd_pre h1.h0⟩, t2'⟩
  have c := of_decide_eq_false c
  have hnil : As = [] := by
    cases As with
    | nil => rfl
    | cons E As => rw [two_of, List.length_cons] at c; omega
  subst hnil
  have hD0 : D = [] := Option.some.inj h1.h0
  subst hD0
  refine w_seq (w_if ?_)
  walk_at "wp"
  refine ⟨rfl, (told_undo0 (k := 86) h1.dk).mono ?_⟩
  rintro _ _ ⟨rfl, rfl⟩
  walk_at "wp"
  refine y_neSelf (c := 100) (n := 3) (u := dueE (noLab "undo")) (plB_ok (by decide +kernel)) (by decide) rfl ?_
  walk_at "wp"
  refine ite_b (fun z => by cases z) (fun _ => ?_)
  refine w_nop (w_ret ?_)
  walk_at "wp"
  refine y_ix (u := .str l) (show ixB (.lst (.str l :: (wr ++ wn).map .str)) (.int 0) _ = _ from atI_nat (j := 0) rfl) ?_
  walk_at "wp"
  refine ⟨rfl, (draw h3 (by decide) (by decide) (by decide)).mono ?_⟩
  rintro _ S6 ⟨r6, rfl, r60, r61, t6, l6, f6⟩
  walk_at "wp"
  have hd6 := desk_fr h1.dk h3 f6
  obtain ⟨q6, e6'⟩ : ∃ q6 : Nat, 150 + r6 = (q6 : Int) := ⟨(150 + r6).toNat, by omega⟩
  rw [e6']
  refine ⟨rfl, (law_many (k := 84) (hw7 l List.mem_cons_self) (by omega) hd6).mono ?_⟩
  rintro _ _ rfl
  rfl
set_option maxHeartbeats 8000000 in
theorem all_mk {w : World} {K : PySem.W.Frag} {h : Heap} {mg : Str → Option Value} {fa : Addr} (X : K.In h) (G : h.Ns mainGlobals mg) (hfa : mg "law" = some (.ref fa))
    {x_is_word : Addr} {od_is_word an_is_word : Option Addr} {sl_is_word : Array (Option Value)} {oc_is_word kV_is_word dc_is_word pm_is_word cd_is_word ct_is_word : Value}
    {x_parts_in : Addr} {od_parts_in an_parts_in : Option Addr} {sl_parts_in : Array (Option Value)} {oc_parts_in kV_parts_in dc_parts_in pm_parts_in cd_parts_in ct_parts_in : Value}
    {x_is_saying : Addr} {od_is_saying an_is_saying : Option Addr} {sl_is_saying : Array (Option Value)} {oc_is_saying kV_is_saying dc_is_saying pm_is_saying cd_is_saying ct_is_saying : Value}
    {x_is_row : Addr} {od_is_row an_is_row : Option Addr} {sl_is_row : Array (Option Value)} {oc_is_row kV_is_row dc_is_row pm_is_row cd_is_row ct_is_row : Value}
    {x__law_tape : Addr} {od__law_tape an__law_tape : Option Addr} {sl__law_tape : Array (Option Value)} {oc__law_tape kV__law_tape dc__law_tape pm__law_tape cd__law_tape ct__law_tape : Value}
    {x__law_draw : Addr} {od__law_draw an__law_draw : Option Addr} {sl__law_draw : Array (Option Value)} {oc__law_draw kV__law_draw dc__law_draw pm__law_draw cd__law_draw ct__law_draw : Value}
    {x__law_words : Addr} {od__law_words an__law_words : Option Addr} {sl__law_words : Array (Option Value)} {oc__law_words kV__law_words dc__law_words pm__law_words cd__law_words ct__law_words : Value}
    {x__law_saying : Addr} {od__law_saying an__law_saying : Option Addr} {sl__law_saying : Array (Option Value)} {oc__law_saying kV__law_saying dc__law_saying pm__law_saying cd__law_saying ct__law_saying : Value}
    {x__law_desk_row : Addr} {od__law_desk_row an__law_desk_row : Option Addr} {sl__law_desk_row : Array (Option Value)} {oc__law_desk_row kV__law_desk_row dc__law_desk_row pm__law_desk_row cd__law_desk_row ct__law_desk_row : Value}
    {x__law_after : Addr} {od__law_after an__law_after : Option Addr} {sl__law_after : Array (Option Value)} {oc__law_after kV__law_after dc__law_after pm__law_after cd__law_after ct__law_after : Value}
    {x__law_bad : Addr} {od__law_bad an__law_bad : Option Addr} {sl__law_bad : Array (Option Value)} {oc__law_bad kV__law_bad dc__law_bad pm__law_bad cd__law_bad ct__law_bad : Value}
    {x__law_told : Addr} {od__law_told an__law_told : Option Addr} {sl__law_told : Array (Option Value)} {oc__law_told kV__law_told dc__law_told pm__law_told cd__law_told ct__law_told : Value}
    {x__law_right : Addr} {od__law_right an__law_right : Option Addr} {sl__law_right : Array (Option Value)} {oc__law_right kV__law_right dc__law_right pm__law_right cd__law_right ct__law_right : Value}
    {x__law_several : Addr} {od__law_several an__law_several : Option Addr} {sl__law_several : Array (Option Value)} {oc__law_several kV__law_several dc__law_several pm__law_several cd__law_several ct__law_several : Value}
    {x__law_many : Addr} {od__law_many an__law_many : Option Addr} {sl__law_many : Array (Option Value)} {oc__law_many kV__law_many dc__law_many pm__law_many cd__law_many ct__law_many : Value}
    {x_law : Addr} {od_law an_law : Option Addr} {sl_law : Array (Option Value)} {oc_law kV_law dc_law pm_law cd_law ct_law : Value}
    {x_Desk : Addr}
    {x_Desk___init__ : Addr} {od_Desk___init__ an_Desk___init__ : Option Addr} {sl_Desk___init__ : Array (Option Value)} {oc_Desk___init__ kV_Desk___init__ dc_Desk___init__ pm_Desk___init__ cd_Desk___init__ ct_Desk___init__ : Value}
    {x_Desk_note : Addr} {od_Desk_note an_Desk_note : Option Addr} {sl_Desk_note : Array (Option Value)} {oc_Desk_note kV_Desk_note dc_Desk_note pm_Desk_note cd_Desk_note ct_Desk_note : Value}
    {x_Desk_put : Addr} {od_Desk_put an_Desk_put : Option Addr} {sl_Desk_put : Array (Option Value)} {oc_Desk_put kV_Desk_put dc_Desk_put pm_Desk_put cd_Desk_put ct_Desk_put : Value}
    {x_Desk_need : Addr} {od_Desk_need an_Desk_need : Option Addr} {sl_Desk_need : Array (Option Value)} {oc_Desk_need kV_Desk_need dc_Desk_need pm_Desk_need cd_Desk_need ct_Desk_need : Value}
    {x_Desk_drop : Addr} {od_Desk_drop an_Desk_drop : Option Addr} {sl_Desk_drop : Array (Option Value)} {oc_Desk_drop kV_Desk_drop dc_Desk_drop pm_Desk_drop cd_Desk_drop ct_Desk_drop : Value}
    {x_Desk_move : Addr} {od_Desk_move an_Desk_move : Option Addr} {sl_Desk_move : Array (Option Value)} {oc_Desk_move kV_Desk_move dc_Desk_move pm_Desk_move cd_Desk_move ct_Desk_move : Value}
    {x_Desk_undo : Addr} {od_Desk_undo an_Desk_undo : Option Addr} {sl_Desk_undo : Array (Option Value)} {oc_Desk_undo kV_Desk_undo dc_Desk_undo pm_Desk_undo cd_Desk_undo ct_Desk_undo : Value}
    {x_Desk_deeds : Addr} {od_Desk_deeds an_Desk_deeds : Option Addr} {sl_Desk_deeds : Array (Option Value)} {oc_Desk_deeds kV_Desk_deeds dc_Desk_deeds pm_Desk_deeds cd_Desk_deeds ct_Desk_deeds : Value}
    {x_Desk_do : Addr} {od_Desk_do an_Desk_do : Option Addr} {sl_Desk_do : Array (Option Value)} {oc_Desk_do kV_Desk_do dc_Desk_do pm_Desk_do cd_Desk_do ct_Desk_do : Value}
    {x_Desk_several : Addr} {od_Desk_several an_Desk_several : Option Addr} {sl_Desk_several : Array (Option Value)} {oc_Desk_several kV_Desk_several dc_Desk_several pm_Desk_several cd_Desk_several ct_Desk_several : Value}
    {x_Desk_labels : Addr} {od_Desk_labels an_Desk_labels : Option Addr} {sl_Desk_labels : Array (Option Value)} {oc_Desk_labels kV_Desk_labels dc_Desk_labels pm_Desk_labels cd_Desk_labels ct_Desk_labels : Value}
    {x_DEEPEST : Tok}
    {x_LETTERS : Tok}
    {x_LONGEST_WORD : Tok}
    {x_MANY : Addr} {es_MANY : List DictEntry} {n_MANY : Nat}
    {x_MOST_PARTS : Tok}
    {x_SIDES : Addr} {o_SIDES : Obj} {its_SIDES : Array Value} {n_SIDES : Nat}
    {x_WORDS_OF_TEXTS : Addr} {o_WORDS_OF_TEXTS : Obj} {its_WORDS_OF_TEXTS : Array Value} {n_WORDS_OF_TEXTS : Nat}
    {x_NoRow xi_NoRow : Addr} {nm_NoRow qn_NoRow : Str} {N_NoRow : Addr} {bs_NoRow : List Value} {sn_NoRow : List Str} {sb_NoRow : List Value} {ab_NoRow : Bool} {cl_NoRow : Option Bool} {dd_NoRow : Option Addr} {q0_NoRow q1_NoRow q2_NoRow q3_NoRow q5_NoRow : Option Value} {od_NoRow an_NoRow : Option Addr} {sl_NoRow : Array (Option Value)} {oc_NoRow kV_NoRow dc_NoRow pm_NoRow cd_NoRow ct_NoRow : Value}
    {x_NoLabel xi_NoLabel : Addr} {nm_NoLabel qn_NoLabel : Str} {N_NoLabel : Addr} {bs_NoLabel : List Value} {sn_NoLabel : List Str} {sb_NoLabel : List Value} {ab_NoLabel : Bool} {cl_NoLabel : Option Bool} {dd_NoLabel : Option Addr} {q0_NoLabel q1_NoLabel q2_NoLabel q3_NoLabel q5_NoLabel : Option Value} {od_NoLabel an_NoLabel : Option Addr} {sl_NoLabel : Array (Option Value)} {oc_NoLabel kV_NoLabel dc_NoLabel pm_NoLabel cd_NoLabel ct_NoLabel : Value}
    (a_is_word : PySem.W.nsIn K mainGlobals "is_word" = some (some (.ref x_is_word)))
    (l_is_word : K.lookup x_is_word = some ⟨oc_is_word, od_is_word, .func (PySem.W.fnOf "is_word" "is_word" (defArgs s_is_word) (defBody s_is_word) (defScope s_is_word) .none kV_is_word dc_is_word pm_is_word an_is_word cd_is_word ct_is_word), sl_is_word⟩)
    (c_is_word : PySem.W.codeIn K cd_is_word "is_word" = true)
    (k_is_word : PySem.W.keepIn K (.ref x_is_word) = true)
    (a_parts_in : PySem.W.nsIn K mainGlobals "parts_in" = some (some (.ref x_parts_in)))
    (l_parts_in : K.lookup x_parts_in = some ⟨oc_parts_in, od_parts_in, .func (PySem.W.fnOf "parts_in" "parts_in" (defArgs s_parts_in) (defBody s_parts_in) (defScope s_parts_in) .none kV_parts_in dc_parts_in pm_parts_in an_parts_in cd_parts_in ct_parts_in), sl_parts_in⟩)
    (c_parts_in : PySem.W.codeIn K cd_parts_in "parts_in" = true)
    (k_parts_in : PySem.W.keepIn K (.ref x_parts_in) = true)
    (a_is_saying : PySem.W.nsIn K mainGlobals "is_saying" = some (some (.ref x_is_saying)))
    (l_is_saying : K.lookup x_is_saying = some ⟨oc_is_saying, od_is_saying, .func (PySem.W.fnOf "is_saying" "is_saying" (defArgs s_is_saying) (defBody s_is_saying) (defScope s_is_saying) .none kV_is_saying dc_is_saying pm_is_saying an_is_saying cd_is_saying ct_is_saying), sl_is_saying⟩)
    (c_is_saying : PySem.W.codeIn K cd_is_saying "is_saying" = true)
    (k_is_saying : PySem.W.keepIn K (.ref x_is_saying) = true)
    (a_is_row : PySem.W.nsIn K mainGlobals "is_row" = some (some (.ref x_is_row)))
    (l_is_row : K.lookup x_is_row = some ⟨oc_is_row, od_is_row, .func (PySem.W.fnOf "is_row" "is_row" (defArgs s_is_row) (defBody s_is_row) (defScope s_is_row) .none kV_is_row dc_is_row pm_is_row an_is_row cd_is_row ct_is_row), sl_is_row⟩)
    (c_is_row : PySem.W.codeIn K cd_is_row "is_row" = true)
    (k_is_row : PySem.W.keepIn K (.ref x_is_row) = true)
    (a__law_tape : PySem.W.nsIn K mainGlobals "_law_tape" = some (some (.ref x__law_tape)))
    (l__law_tape : K.lookup x__law_tape = some ⟨oc__law_tape, od__law_tape, .func (PySem.W.fnOf "_law_tape" "_law_tape" (defArgs s_law_tape) (defBody s_law_tape) (defScope s_law_tape) .none kV__law_tape dc__law_tape pm__law_tape an__law_tape cd__law_tape ct__law_tape), sl__law_tape⟩)
    (c__law_tape : PySem.W.codeIn K cd__law_tape "_law_tape" = true)
    (k__law_tape : PySem.W.keepIn K (.ref x__law_tape) = true)
    (a__law_draw : PySem.W.nsIn K mainGlobals "_law_draw" = some (some (.ref x__law_draw)))
    (l__law_draw : K.lookup x__law_draw = some ⟨oc__law_draw, od__law_draw, .func (PySem.W.fnOf "_law_draw" "_law_draw" (defArgs s_law_draw) (defBody s_law_draw) (defScope s_law_draw) .none kV__law_draw dc__law_draw pm__law_draw an__law_draw cd__law_draw ct__law_draw), sl__law_draw⟩)
    (c__law_draw : PySem.W.codeIn K cd__law_draw "_law_draw" = true)
    (k__law_draw : PySem.W.keepIn K (.ref x__law_draw) = true)
    (a__law_words : PySem.W.nsIn K mainGlobals "_law_words" = some (some (.ref x__law_words)))
    (l__law_words : K.lookup x__law_words = some ⟨oc__law_words, od__law_words, .func (PySem.W.fnOf "_law_words" "_law_words" (defArgs s_law_words) (defBody s_law_words) (defScope s_law_words) .none kV__law_words dc__law_words pm__law_words an__law_words cd__law_words ct__law_words), sl__law_words⟩)
    (c__law_words : PySem.W.codeIn K cd__law_words "_law_words" = true)
    (k__law_words : PySem.W.keepIn K (.ref x__law_words) = true)
    (a__law_saying : PySem.W.nsIn K mainGlobals "_law_saying" = some (some (.ref x__law_saying)))
    (l__law_saying : K.lookup x__law_saying = some ⟨oc__law_saying, od__law_saying, .func (PySem.W.fnOf "_law_saying" "_law_saying" (defArgs s_law_saying) (defBody s_law_saying) (defScope s_law_saying) .none kV__law_saying dc__law_saying pm__law_saying an__law_saying cd__law_saying ct__law_saying), sl__law_saying⟩)
    (c__law_saying : PySem.W.codeIn K cd__law_saying "_law_saying" = true)
    (k__law_saying : PySem.W.keepIn K (.ref x__law_saying) = true)
    (a__law_desk_row : PySem.W.nsIn K mainGlobals "_law_desk_row" = some (some (.ref x__law_desk_row)))
    (l__law_desk_row : K.lookup x__law_desk_row = some ⟨oc__law_desk_row, od__law_desk_row, .func (PySem.W.fnOf "_law_desk_row" "_law_desk_row" (defArgs s_law_desk_row) (defBody s_law_desk_row) (defScope s_law_desk_row) .none kV__law_desk_row dc__law_desk_row pm__law_desk_row an__law_desk_row cd__law_desk_row ct__law_desk_row), sl__law_desk_row⟩)
    (c__law_desk_row : PySem.W.codeIn K cd__law_desk_row "_law_desk_row" = true)
    (k__law_desk_row : PySem.W.keepIn K (.ref x__law_desk_row) = true)
    (a__law_after : PySem.W.nsIn K mainGlobals "_law_after" = some (some (.ref x__law_after)))
    (l__law_after : K.lookup x__law_after = some ⟨oc__law_after, od__law_after, .func (PySem.W.fnOf "_law_after" "_law_after" (defArgs s_law_after) (defBody s_law_after) (defScope s_law_after) .none kV__law_after dc__law_after pm__law_after an__law_after cd__law_after ct__law_after), sl__law_after⟩)
    (c__law_after : PySem.W.codeIn K cd__law_after "_law_after" = true)
    (k__law_after : PySem.W.keepIn K (.ref x__law_after) = true)
    (a__law_bad : PySem.W.nsIn K mainGlobals "_law_bad" = some (some (.ref x__law_bad)))
    (l__law_bad : K.lookup x__law_bad = some ⟨oc__law_bad, od__law_bad, .func (PySem.W.fnOf "_law_bad" "_law_bad" (defArgs s_law_bad) (defBody s_law_bad) (defScope s_law_bad) .none kV__law_bad dc__law_bad pm__law_bad an__law_bad cd__law_bad ct__law_bad), sl__law_bad⟩)
    (c__law_bad : PySem.W.codeIn K cd__law_bad "_law_bad" = true)
    (k__law_bad : PySem.W.keepIn K (.ref x__law_bad) = true)
    (a__law_told : PySem.W.nsIn K mainGlobals "_law_told" = some (some (.ref x__law_told)))
    (l__law_told : K.lookup x__law_told = some ⟨oc__law_told, od__law_told, .func (PySem.W.fnOf "_law_told" "_law_told" (defArgs s_law_told) (defBody s_law_told) (defScope s_law_told) .none kV__law_told dc__law_told pm__law_told an__law_told cd__law_told ct__law_told), sl__law_told⟩)
    (c__law_told : PySem.W.codeIn K cd__law_told "_law_told" = true)
    (k__law_told : PySem.W.keepIn K (.ref x__law_told) = true)
    (a__law_right : PySem.W.nsIn K mainGlobals "_law_right" = some (some (.ref x__law_right)))
    (l__law_right : K.lookup x__law_right = some ⟨oc__law_right, od__law_right, .func (PySem.W.fnOf "_law_right" "_law_right" (defArgs s_law_right) (defBody s_law_right) (defScope s_law_right) .none kV__law_right dc__law_right pm__law_right an__law_right cd__law_right ct__law_right), sl__law_right⟩)
    (c__law_right : PySem.W.codeIn K cd__law_right "_law_right" = true)
    (k__law_right : PySem.W.keepIn K (.ref x__law_right) = true)
    (a__law_several : PySem.W.nsIn K mainGlobals "_law_several" = some (some (.ref x__law_several)))
    (l__law_several : K.lookup x__law_several = some ⟨oc__law_several, od__law_several, .func (PySem.W.fnOf "_law_several" "_law_several" (defArgs s_law_several) (defBody s_law_several) (defScope s_law_several) .none kV__law_several dc__law_several pm__law_several an__law_several cd__law_several ct__law_several), sl__law_several⟩)
    (c__law_several : PySem.W.codeIn K cd__law_several "_law_several" = true)
    (k__law_several : PySem.W.keepIn K (.ref x__law_several) = true)
    (a__law_many : PySem.W.nsIn K mainGlobals "_law_many" = some (some (.ref x__law_many)))
    (l__law_many : K.lookup x__law_many = some ⟨oc__law_many, od__law_many, .func (PySem.W.fnOf "_law_many" "_law_many" (defArgs s_law_many) (defBody s_law_many) (defScope s_law_many) .none kV__law_many dc__law_many pm__law_many an__law_many cd__law_many ct__law_many), sl__law_many⟩)
    (c__law_many : PySem.W.codeIn K cd__law_many "_law_many" = true)
    (k__law_many : PySem.W.keepIn K (.ref x__law_many) = true)
    (a_law : PySem.W.nsIn K mainGlobals "law" = some (some (.ref x_law)))
    (l_law : K.lookup x_law = some ⟨oc_law, od_law, .func (PySem.W.fnOf "law" "law" (defArgs s_law) (defBody s_law) (defScope s_law) .none kV_law dc_law pm_law an_law cd_law ct_law), sl_law⟩)
    (c_law : PySem.W.codeIn K cd_law "law" = true)
    (k_law : PySem.W.keepIn K (.ref x_law) = true)
    (a_Desk : PySem.W.nsIn K mainGlobals "Desk" = some (some (.ref x_Desk)))
    (a_Desk___init__ : PySem.W.findIn K (.ref x_Desk) "__init__" = some (some (.ref x_Desk___init__)))
    (l_Desk___init__ : K.lookup x_Desk___init__ = some ⟨oc_Desk___init__, od_Desk___init__, .func (PySem.W.fnOf "__init__" "Desk.__init__" (defArgs s_Desk___init__) (defBody s_Desk___init__) (defScope s_Desk___init__) .none kV_Desk___init__ dc_Desk___init__ pm_Desk___init__ an_Desk___init__ cd_Desk___init__ ct_Desk___init__), sl_Desk___init__⟩)
    (c_Desk___init__ : PySem.W.codeIn K cd_Desk___init__ "Desk.__init__" = true)
    (k_Desk___init__ : PySem.W.keepIn K (.ref x_Desk___init__) = true)
    (f_Desk___init__ : PySem.W.isFn K (.ref x_Desk___init__) = true)
    (a_Desk_note : PySem.W.findIn K (.ref x_Desk) "note" = some (some (.ref x_Desk_note)))
    (l_Desk_note : K.lookup x_Desk_note = some ⟨oc_Desk_note, od_Desk_note, .func (PySem.W.fnOf "note" "Desk.note" (defArgs s_Desk_note) (defBody s_Desk_note) (defScope s_Desk_note) .none kV_Desk_note dc_Desk_note pm_Desk_note an_Desk_note cd_Desk_note ct_Desk_note), sl_Desk_note⟩)
    (c_Desk_note : PySem.W.codeIn K cd_Desk_note "Desk.note" = true)
    (k_Desk_note : PySem.W.keepIn K (.ref x_Desk_note) = true)
    (f_Desk_note : PySem.W.isFn K (.ref x_Desk_note) = true)
    (a_Desk_put : PySem.W.findIn K (.ref x_Desk) "put" = some (some (.ref x_Desk_put)))
    (l_Desk_put : K.lookup x_Desk_put = some ⟨oc_Desk_put, od_Desk_put, .func (PySem.W.fnOf "put" "Desk.put" (defArgs s_Desk_put) (defBody s_Desk_put) (defScope s_Desk_put) .none kV_Desk_put dc_Desk_put pm_Desk_put an_Desk_put cd_Desk_put ct_Desk_put), sl_Desk_put⟩)
    (c_Desk_put : PySem.W.codeIn K cd_Desk_put "Desk.put" = true)
    (k_Desk_put : PySem.W.keepIn K (.ref x_Desk_put) = true)
    (f_Desk_put : PySem.W.isFn K (.ref x_Desk_put) = true)
    (a_Desk_need : PySem.W.findIn K (.ref x_Desk) "need" = some (some (.ref x_Desk_need)))
    (l_Desk_need : K.lookup x_Desk_need = some ⟨oc_Desk_need, od_Desk_need, .func (PySem.W.fnOf "need" "Desk.need" (defArgs s_Desk_need) (defBody s_Desk_need) (defScope s_Desk_need) .none kV_Desk_need dc_Desk_need pm_Desk_need an_Desk_need cd_Desk_need ct_Desk_need), sl_Desk_need⟩)
    (c_Desk_need : PySem.W.codeIn K cd_Desk_need "Desk.need" = true)
    (k_Desk_need : PySem.W.keepIn K (.ref x_Desk_need) = true)
    (f_Desk_need : PySem.W.isFn K (.ref x_Desk_need) = true)
    (a_Desk_drop : PySem.W.findIn K (.ref x_Desk) "drop" = some (some (.ref x_Desk_drop)))
    (l_Desk_drop : K.lookup x_Desk_drop = some ⟨oc_Desk_drop, od_Desk_drop, .func (PySem.W.fnOf "drop" "Desk.drop" (defArgs s_Desk_drop) (defBody s_Desk_drop) (defScope s_Desk_drop) .none kV_Desk_drop dc_Desk_drop pm_Desk_drop an_Desk_drop cd_Desk_drop ct_Desk_drop), sl_Desk_drop⟩)
    (c_Desk_drop : PySem.W.codeIn K cd_Desk_drop "Desk.drop" = true)
    (k_Desk_drop : PySem.W.keepIn K (.ref x_Desk_drop) = true)
    (f_Desk_drop : PySem.W.isFn K (.ref x_Desk_drop) = true)
    (a_Desk_move : PySem.W.findIn K (.ref x_Desk) "move" = some (some (.ref x_Desk_move)))
    (l_Desk_move : K.lookup x_Desk_move = some ⟨oc_Desk_move, od_Desk_move, .func (PySem.W.fnOf "move" "Desk.move" (defArgs s_Desk_move) (defBody s_Desk_move) (defScope s_Desk_move) .none kV_Desk_move dc_Desk_move pm_Desk_move an_Desk_move cd_Desk_move ct_Desk_move), sl_Desk_move⟩)
    (c_Desk_move : PySem.W.codeIn K cd_Desk_move "Desk.move" = true)
    (k_Desk_move : PySem.W.keepIn K (.ref x_Desk_move) = true)
    (f_Desk_move : PySem.W.isFn K (.ref x_Desk_move) = true)
    (a_Desk_undo : PySem.W.findIn K (.ref x_Desk) "undo" = some (some (.ref x_Desk_undo)))
    (l_Desk_undo : K.lookup x_Desk_undo = some ⟨oc_Desk_undo, od_Desk_undo, .func (PySem.W.fnOf "undo" "Desk.undo" (defArgs s_Desk_undo) (defBody s_Desk_undo) (defScope s_Desk_undo) .none kV_Desk_undo dc_Desk_undo pm_Desk_undo an_Desk_undo cd_Desk_undo ct_Desk_undo), sl_Desk_undo⟩)
    (c_Desk_undo : PySem.W.codeIn K cd_Desk_undo "Desk.undo" = true)
    (k_Desk_undo : PySem.W.keepIn K (.ref x_Desk_undo) = true)
    (f_Desk_undo : PySem.W.isFn K (.ref x_Desk_undo) = true)
    (a_Desk_deeds : PySem.W.findIn K (.ref x_Desk) "deeds" = some (some (.ref x_Desk_deeds)))
    (l_Desk_deeds : K.lookup x_Desk_deeds = some ⟨oc_Desk_deeds, od_Desk_deeds, .func (PySem.W.fnOf "deeds" "Desk.deeds" (defArgs s_Desk_deeds) (defBody s_Desk_deeds) (defScope s_Desk_deeds) .none kV_Desk_deeds dc_Desk_deeds pm_Desk_deeds an_Desk_deeds cd_Desk_deeds ct_Desk_deeds), sl_Desk_deeds⟩)
    (c_Desk_deeds : PySem.W.codeIn K cd_Desk_deeds "Desk.deeds" = true)
    (k_Desk_deeds : PySem.W.keepIn K (.ref x_Desk_deeds) = true)
    (f_Desk_deeds : PySem.W.isFn K (.ref x_Desk_deeds) = true)
    (a_Desk_do : PySem.W.findIn K (.ref x_Desk) "do" = some (some (.ref x_Desk_do)))
    (l_Desk_do : K.lookup x_Desk_do = some ⟨oc_Desk_do, od_Desk_do, .func (PySem.W.fnOf "do" "Desk.do" (defArgs s_Desk_do) (defBody s_Desk_do) (defScope s_Desk_do) .none kV_Desk_do dc_Desk_do pm_Desk_do an_Desk_do cd_Desk_do ct_Desk_do), sl_Desk_do⟩)
    (c_Desk_do : PySem.W.codeIn K cd_Desk_do "Desk.do" = true)
    (k_Desk_do : PySem.W.keepIn K (.ref x_Desk_do) = true)
    (f_Desk_do : PySem.W.isFn K (.ref x_Desk_do) = true)
    (a_Desk_several : PySem.W.findIn K (.ref x_Desk) "several" = some (some (.ref x_Desk_several)))
    (l_Desk_several : K.lookup x_Desk_several = some ⟨oc_Desk_several, od_Desk_several, .func (PySem.W.fnOf "several" "Desk.several" (defArgs s_Desk_several) (defBody s_Desk_several) (defScope s_Desk_several) .none kV_Desk_several dc_Desk_several pm_Desk_several an_Desk_several cd_Desk_several ct_Desk_several), sl_Desk_several⟩)
    (c_Desk_several : PySem.W.codeIn K cd_Desk_several "Desk.several" = true)
    (k_Desk_several : PySem.W.keepIn K (.ref x_Desk_several) = true)
    (f_Desk_several : PySem.W.isFn K (.ref x_Desk_several) = true)
    (a_Desk_labels : PySem.W.findIn K (.ref x_Desk) "labels" = some (some (.ref x_Desk_labels)))
    (l_Desk_labels : K.lookup x_Desk_labels = some ⟨oc_Desk_labels, od_Desk_labels, .func (PySem.W.fnOf "labels" "Desk.labels" (defArgs s_Desk_labels) (defBody s_Desk_labels) (defScope s_Desk_labels) .none kV_Desk_labels dc_Desk_labels pm_Desk_labels an_Desk_labels cd_Desk_labels ct_Desk_labels), sl_Desk_labels⟩)
    (c_Desk_labels : PySem.W.codeIn K cd_Desk_labels "Desk.labels" = true)
    (k_Desk_labels : PySem.W.keepIn K (.ref x_Desk_labels) = true)
    (f_Desk_labels : PySem.W.isFn K (.ref x_Desk_labels) = true)
    (cb_Desk : DL.clB K x_Desk = true)
    (nb_Desk : nasB K x_Desk ["ahead", "known", "many", "there"] = true)
    (a_DEEPEST : PySem.W.nsIn K mainGlobals "DEEPEST" = some (some (.int 25 x_DEEPEST)))
    (a_LETTERS : PySem.W.nsIn K mainGlobals "LETTERS" = some (some (.str "abcdefghijklmnopqrstuvwxyz" x_LETTERS)))
    (a_LONGEST_WORD : PySem.W.nsIn K mainGlobals "LONGEST_WORD" = some (some (.int 8 x_LONGEST_WORD)))
    (a_MANY : PySem.W.nsIn K mainGlobals "MANY" = some (some (.ref x_MANY)))
    (l_MANY : K.lookup x_MANY = some ⟨.type "dict", none, .dict es_MANY.toArray n_MANY, #[]⟩)
    (q_MANY : PySem.W.KeysLit w.params es_MANY)
    (u_MANY : (x_MANY == sysModules) = false)
    (t_MANY : TabOk K es_MANY t_MANY)
    (a_MOST_PARTS : PySem.W.nsIn K mainGlobals "MOST_PARTS" = some (some (.int 400 x_MOST_PARTS)))
    (a_SIDES : PySem.W.nsIn K mainGlobals "SIDES" = some (some (.ref x_SIDES)))
    (l_SIDES : K.lookup x_SIDES = some o_SIDES)
    (h_SIDES : o_SIDES.cls = .type "tuple" ∧ o_SIDES.data = .seq its_SIDES n_SIDES ∧ its_SIDES.size ≤ sizeLine ∧ Vals [.str "one", .str "other"] its_SIDES.toList)
    (td_SIDES : o_SIDES.dict = none)
    (a_WORDS_OF_TEXTS : PySem.W.nsIn K mainGlobals "WORDS_OF_TEXTS" = some (some (.ref x_WORDS_OF_TEXTS)))
    (l_WORDS_OF_TEXTS : K.lookup x_WORDS_OF_TEXTS = some o_WORDS_OF_TEXTS)
    (h_WORDS_OF_TEXTS : o_WORDS_OF_TEXTS.cls = .type "tuple" ∧ o_WORDS_OF_TEXTS.data = .seq its_WORDS_OF_TEXTS n_WORDS_OF_TEXTS ∧ its_WORDS_OF_TEXTS.size ≤ sizeLine ∧ Vals [.str "not", .str "and", .str "or", .str "gives", .str "is", .str "yes", .str "no"] its_WORDS_OF_TEXTS.toList)
    (a_NoRow : PySem.W.nsIn K mainGlobals "NoRow" = some (some (.ref x_NoRow)))
    (l_NoRow : K.lookup x_NoRow = some (excClassObj nm_NoRow qn_NoRow x_NoRow N_NoRow bs_NoRow [.type "ValueError", .type "Exception", .type "BaseException", .type "object"] true sn_NoRow sb_NoRow ab_NoRow cl_NoRow dd_NoRow q0_NoRow q1_NoRow q2_NoRow q3_NoRow q5_NoRow "ValueError.__new__"))
    (i_NoRow : PySem.W.findIn K (.ref x_NoRow) "__init__" = some (some (.ref xi_NoRow)))
    (li_NoRow : K.lookup xi_NoRow = some ⟨oc_NoRow, od_NoRow, .func (PySem.W.fnOf "__init__" ("NoRow" ++ ".__init__") (defArgs sx_NoRow) (defBody sx_NoRow) (defScope sx_NoRow) .none kV_NoRow dc_NoRow pm_NoRow an_NoRow cd_NoRow ct_NoRow), sl_NoRow⟩)
    (ci_NoRow : PySem.W.codeIn K cd_NoRow ("NoRow" ++ ".__init__") = true)
    (ki_NoRow : PySem.W.keepIn K (.ref xi_NoRow) = true)
    (o_NoRow : oxB K x_NoRow xi_NoRow "row" [.type "ValueError", .type "Exception", .type "BaseException", .type "object"] = true)
    (a_NoLabel : PySem.W.nsIn K mainGlobals "NoLabel" = some (some (.ref x_NoLabel)))
    (l_NoLabel : K.lookup x_NoLabel = some (excClassObj nm_NoLabel qn_NoLabel x_NoLabel N_NoLabel bs_NoLabel [.type "KeyError", .type "LookupError", .type "Exception", .type "BaseException", .type "object"] true sn_NoLabel sb_NoLabel ab_NoLabel cl_NoLabel dd_NoLabel q0_NoLabel q1_NoLabel q2_NoLabel q3_NoLabel q5_NoLabel "LookupError.__new__"))
    (i_NoLabel : PySem.W.findIn K (.ref x_NoLabel) "__init__" = some (some (.ref xi_NoLabel)))
    (li_NoLabel : K.lookup xi_NoLabel = some ⟨oc_NoLabel, od_NoLabel, .func (PySem.W.fnOf "__init__" ("NoLabel" ++ ".__init__") (defArgs sx_NoLabel) (defBody sx_NoLabel) (defScope sx_NoLabel) .none kV_NoLabel dc_NoLabel pm_NoLabel an_NoLabel cd_NoLabel ct_NoLabel), sl_NoLabel⟩)
    (ci_NoLabel : PySem.W.codeIn K cd_NoLabel ("NoLabel" ++ ".__init__") = true)
    (ki_NoLabel : PySem.W.keepIn K (.ref xi_NoLabel) = true)
    (o_NoLabel : oxB K x_NoLabel xi_NoLabel "label" [.type "KeyError", .type "LookupError", .type "Exception", .type "BaseException", .type "object"] = true)
    (vb_KeyError : PySem.W.findCls K (.type "KeyError") (.type "type") "__init__" = some (.val (.builtin "KeyError.__init__")))
    (vb_ValueError : PySem.W.findCls K (.type "ValueError") (.type "type") "__init__" = some (.val (.builtin "ValueError.__init__")))
    (en_NoLabel : DL.enB K x_NoLabel = true)
    (en_NoRow : DL.enB K x_NoRow = true)
    (kit : isB K (kO x_NoRow x_NoLabel false :: (kT x_NoRow "KeyError" false :: (kO x_NoRow x_NoRow true :: (kT x_NoRow "ValueError" true :: (kO x_NoLabel x_NoLabel true :: (kT x_NoLabel "KeyError" true :: (kO x_NoLabel x_NoRow false :: (kT x_NoLabel "ValueError" false :: ([]))))))))) = true)
    (cat_NoLabel : exB K (.ref x_NoLabel) [(x_NoRow, false), (x_NoLabel, true)] = true)
    (cat_NoRow : exB K (.ref x_NoRow) [(x_NoRow, true), (x_NoLabel, false)] = true)
    (z_KeyError : PySem.W.nsIn K mainGlobals "KeyError" = some none)
    (z_ValueError : PySem.W.nsIn K mainGlobals "ValueError" = some none)
    (z_all : PySem.W.nsIn K mainGlobals "all" = some none)
    (z_dict : PySem.W.nsIn K mainGlobals "dict" = some none)
    (z_enumerate : PySem.W.nsIn K mainGlobals "enumerate" = some none)
    (z_int : PySem.W.nsIn K mainGlobals "int" = some none)
    (z_isinstance : PySem.W.nsIn K mainGlobals "isinstance" = some none)
    (z_len : PySem.W.nsIn K mainGlobals "len" = some none)
    (z_list : PySem.W.nsIn K mainGlobals "list" = some none)
    (z_max : PySem.W.nsIn K mainGlobals "max" = some none)
    (z_min : PySem.W.nsIn K mainGlobals "min" = some none)
    (z_range : PySem.W.nsIn K mainGlobals "range" = some none)
    (z_sorted : PySem.W.nsIn K mainGlobals "sorted" = some none)
    (z_str : PySem.W.nsIn K mainGlobals "str" = some none)
    (z_tuple : PySem.W.nsIn K mainGlobals "tuple" = some none) :
    ∃ fd : FuncData, (∀ (s : Shared) (v : Value), BindsTo s fd ⟨[v], []⟩ [("_law_script", v)]) ∧ ∀ base : Heap, K.In base → base.Ns mainGlobals mg → FnOk PySem.Challenge.pw_middlesay_k93_desk_deeds w K mg base (L2.CX PySem.Challenge.pw_middlesay_k93_desk_deeds w) 182 fa fd ["_law_script"] (spLaw K 63) := by
  have e := hfa.symm.trans (PySem.W.mg_of X G a_law)
  cases e
  have F_is_word := fun_mk (st := s_is_word) l_is_word c_is_word k_is_word
  have b_is_word := F_is_word.binds (ps := ["thing"]) fun _ _ _ _ _ _ us hl => match us, hl with | [_], _ => rfl
  have F_parts_in := fun_mk (st := s_parts_in) l_parts_in c_parts_in k_parts_in
  have b_parts_in := F_parts_in.binds (ps := ["thing", "deep"]) fun _ _ _ _ _ _ us hl => match us, hl with | [_, _], _ => rfl
  have F_is_saying := fun_mk (st := s_is_saying) l_is_saying c_is_saying k_is_saying
  have b_is_saying := F_is_saying.binds (ps := ["thing"]) fun _ _ _ _ _ _ us hl => match us, hl with | [_], _ => rfl
  have F_is_row := fun_mk (st := s_is_row) l_is_row c_is_row k_is_row
  have b_is_row := F_is_row.binds (ps := ["thing"]) fun _ _ _ _ _ _ us hl => match us, hl with | [_], _ => rfl
  have F__law_tape := fun_mk (st := s_law_tape) l__law_tape c__law_tape k__law_tape
  have b__law_tape := F__law_tape.binds (ps := ["_law_script"]) fun _ _ _ _ _ _ us hl => match us, hl with | [_], _ => rfl
  have F__law_draw := fun_mk (st := s_law_draw) l__law_draw c__law_draw k__law_draw
  have b__law_draw := F__law_draw.binds (ps := ["_law_tape_here", "_law_many_here"]) fun _ _ _ _ _ _ us hl => match us, hl with | [_, _], _ => rfl
  have F__law_words := fun_mk (st := s_law_words) l__law_words c__law_words k__law_words
  have b__law_words := F__law_words.binds (ps := ["_law_tape_here", "_law_many_here"]) fun _ _ _ _ _ _ us hl => match us, hl with | [_, _], _ => rfl
  have F__law_saying := fun_mk (st := s_law_saying) l__law_saying c__law_saying k__law_saying
  have b__law_saying := F__law_saying.binds (ps := ["_law_tape_here", "_law_names", "_law_left", "_law_deep"]) fun _ _ _ _ _ _ us hl => match us, hl with | [_, _, _, _], _ => rfl
  have F__law_desk_row := fun_mk (st := s_law_desk_row) l__law_desk_row c__law_desk_row k__law_desk_row
  have b__law_desk_row := F__law_desk_row.binds (ps := ["_law_tape_here", "_law_labels", "_law_sayings"]) fun _ _ _ _ _ _ us hl => match us, hl with | [_, _, _], _ => rfl
  have F__law_after := fun_mk (st := s_law_after) l__law_after c__law_after k__law_after
  have b__law_after := F__law_after.binds (ps := ["_law_there", "_law_row"]) fun _ _ _ _ _ _ us hl => match us, hl with | [_, _], _ => rfl
  have F__law_bad := fun_mk (st := s_law_bad) l__law_bad c__law_bad k__law_bad
  have b__law_bad := F__law_bad.binds (ps := ["_law_tape_here", "_law_labels"]) fun _ _ _ _ _ _ us hl => match us, hl with | [_, _], _ => rfl
  have F__law_told := fun_mk (st := s_law_told) l__law_told c__law_told k__law_told
  have b__law_told := F__law_told.binds (ps := ["_law_desk", "_law_word", "_law_row"]) fun _ _ _ _ _ _ us hl => match us, hl with | [_, _, _], _ => rfl
  have F__law_right := fun_mk (st := s_law_right) l__law_right c__law_right k__law_right
  have b__law_right := F__law_right.binds (ps := ["_law_desk", "_law_states", "_law_many_here"]) fun _ _ _ _ _ _ us hl => match us, hl with | [_, _, _], _ => rfl
  have F__law_several := fun_mk (st := s_law_several) l__law_several c__law_several k__law_several
  have b__law_several := F__law_several.binds (ps := ["_law_tape_here", "_law_labels", "_law_sayings", "_law_there"]) fun _ _ _ _ _ _ us hl => match us, hl with | [_, _, _, _], _ => rfl
  have F__law_many := fun_mk (st := s_law_many) l__law_many c__law_many k__law_many
  have b__law_many := F__law_many.binds (ps := ["_law_desk", "_law_label", "_law_many_here", "_law_more"]) fun _ _ _ _ _ _ us hl => match us, hl with | [_, _, _, _], _ => rfl
  have F_law := fun_mk (st := s_law) l_law c_law k_law
  have b_law := F_law.binds (ps := ["_law_script"]) fun _ _ _ _ _ _ us hl => match us, hl with | [_], _ => rfl
  have F_Desk___init__ := fun_mk (st := s_Desk___init__) l_Desk___init__ c_Desk___init__ k_Desk___init__
  have b_Desk___init__ := F_Desk___init__.binds (ps := ["self"]) fun _ _ _ _ _ _ us hl => match us, hl with | [_], _ => rfl
  have F_Desk_note := fun_mk (st := s_Desk_note) l_Desk_note c_Desk_note k_Desk_note
  have b_Desk_note := F_Desk_note.binds (ps := ["self", "there"]) fun _ _ _ _ _ _ us hl => match us, hl with | [_, _], _ => rfl
  have F_Desk_put := fun_mk (st := s_Desk_put) l_Desk_put c_Desk_put k_Desk_put
  have b_Desk_put := F_Desk_put.binds (ps := ["self", "label", "side", "saying"]) fun _ _ _ _ _ _ us hl => match us, hl with | [_, _, _, _], _ => rfl
  have F_Desk_need := fun_mk (st := s_Desk_need) l_Desk_need c_Desk_need k_Desk_need
  have b_Desk_need := F_Desk_need.binds (ps := ["self", "label"]) fun _ _ _ _ _ _ us hl => match us, hl with | [_, _], _ => rfl
  have F_Desk_drop := fun_mk (st := s_Desk_drop) l_Desk_drop c_Desk_drop k_Desk_drop
  have b_Desk_drop := F_Desk_drop.binds (ps := ["self", "label"]) fun _ _ _ _ _ _ us hl => match us, hl with | [_, _], _ => rfl
  have F_Desk_move := fun_mk (st := s_Desk_move) l_Desk_move c_Desk_move k_Desk_move
  have b_Desk_move := F_Desk_move.binds (ps := ["self", "label"]) fun _ _ _ _ _ _ us hl => match us, hl with | [_, _], _ => rfl
  have F_Desk_undo := fun_mk (st := s_Desk_undo) l_Desk_undo c_Desk_undo k_Desk_undo
  have b_Desk_undo := F_Desk_undo.binds (ps := ["self"]) fun _ _ _ _ _ _ us hl => match us, hl with | [_], _ => rfl
  have F_Desk_deeds := fun_mk (st := s_Desk_deeds) l_Desk_deeds c_Desk_deeds k_Desk_deeds
  have b_Desk_deeds := F_Desk_deeds.binds (ps := ["self"]) fun _ _ _ _ _ _ us hl => match us, hl with | [_], _ => rfl
  have F_Desk_do := fun_mk (st := s_Desk_do) l_Desk_do c_Desk_do k_Desk_do
  have b_Desk_do := F_Desk_do.binds (ps := ["self", "row", "at"]) fun _ _ _ _ _ _ us hl => match us, hl with | [_, _, _], _ => rfl
  have F_Desk_several := fun_mk (st := s_Desk_several) l_Desk_several c_Desk_several k_Desk_several
  have b_Desk_several := F_Desk_several.binds (ps := ["self", "rows"]) fun _ _ _ _ _ _ us hl => match us, hl with | [_, _], _ => rfl
  have F_Desk_labels := fun_mk (st := s_Desk_labels) l_Desk_labels c_Desk_labels k_Desk_labels
  have b_Desk_labels := F_Desk_labels.binds (ps := ["self"]) fun _ _ _ _ _ _ us hl => match us, hl with | [_], _ => rfl
  have F_NoRow := fun_mk (st := sx_NoRow) li_NoRow ci_NoRow ki_NoRow
  have b_NoRow := F_NoRow.binds (ps := ["self", "row"]) fun _ _ _ _ _ _ us hl => match us, hl with | [_, _], _ => rfl
  have F_NoLabel := fun_mk (st := sx_NoLabel) li_NoLabel ci_NoLabel ki_NoLabel
  have b_NoLabel := F_NoLabel.binds (ps := ["self", "label"]) fun _ _ _ _ _ _ us hl => match us, hl with | [_, _], _ => rfl
  let T : Txt w K mg := ⟨x_is_word,
    _,
    F_is_word,
    PySem.W.mg_of X G a_is_word,
    b_is_word,
    x_parts_in,
    _,
    F_parts_in,
    PySem.W.mg_of X G a_parts_in,
    b_parts_in,
    x_is_saying,
    _,
    F_is_saying,
    PySem.W.mg_of X G a_is_saying,
    b_is_saying,
    x_is_row,
    _,
    F_is_row,
    PySem.W.mg_of X G a_is_row,
    b_is_row,
    x__law_tape,
    _,
    F__law_tape,
    PySem.W.mg_of X G a__law_tape,
    b__law_tape,
    x__law_draw,
    _,
    F__law_draw,
    PySem.W.mg_of X G a__law_draw,
    b__law_draw,
    x__law_words,
    _,
    F__law_words,
    PySem.W.mg_of X G a__law_words,
    b__law_words,
    x__law_saying,
    _,
    F__law_saying,
    PySem.W.mg_of X G a__law_saying,
    b__law_saying,
    x__law_desk_row,
    _,
    F__law_desk_row,
    PySem.W.mg_of X G a__law_desk_row,
    b__law_desk_row,
    x__law_after,
    _,
    F__law_after,
    PySem.W.mg_of X G a__law_after,
    b__law_after,
    x__law_bad,
    _,
    F__law_bad,
    PySem.W.mg_of X G a__law_bad,
    b__law_bad,
    x__law_told,
    _,
    F__law_told,
    PySem.W.mg_of X G a__law_told,
    b__law_told,
    x__law_right,
    _,
    F__law_right,
    PySem.W.mg_of X G a__law_right,
    b__law_right,
    x__law_several,
    _,
    F__law_several,
    PySem.W.mg_of X G a__law_several,
    b__law_several,
    x__law_many,
    _,
    F__law_many,
    PySem.W.mg_of X G a__law_many,
    b__law_many,
    fa,
    _,
    F_law,
    PySem.W.mg_of X G a_law,
    b_law,
    x_Desk___init__,
    _,
    F_Desk___init__,
    b_Desk___init__,
    x_Desk_note,
    _,
    F_Desk_note,
    b_Desk_note,
    x_Desk_put,
    _,
    F_Desk_put,
    b_Desk_put,
    x_Desk_need,
    _,
    F_Desk_need,
    b_Desk_need,
    x_Desk_drop,
    _,
    F_Desk_drop,
    b_Desk_drop,
    x_Desk_move,
    _,
    F_Desk_move,
    b_Desk_move,
    x_Desk_undo,
    _,
    F_Desk_undo,
    b_Desk_undo,
    x_Desk_deeds,
    _,
    F_Desk_deeds,
    b_Desk_deeds,
    x_Desk_do,
    _,
    F_Desk_do,
    b_Desk_do,
    x_Desk_several,
    _,
    F_Desk_several,
    b_Desk_several,
    x_Desk_labels,
    _,
    F_Desk_labels,
    b_Desk_labels,
    x_Desk,
    PySem.W.mg_of X G a_Desk,
    (cl_mk cb_Desk).1,
    ⟨(cl_mk cb_Desk).2.1, a_Desk___init__, f_Desk___init__, (cl_mk cb_Desk).2.2⟩,
    ⟨a_Desk_note, f_Desk_note, k_Desk_note⟩,
    ⟨a_Desk_put, f_Desk_put, k_Desk_put⟩,
    ⟨a_Desk_need, f_Desk_need, k_Desk_need⟩,
    ⟨a_Desk_drop, f_Desk_drop, k_Desk_drop⟩,
    ⟨a_Desk_move, f_Desk_move, k_Desk_move⟩,
    ⟨a_Desk_undo, f_Desk_undo, k_Desk_undo⟩,
    ⟨a_Desk_deeds, f_Desk_deeds, k_Desk_deeds⟩,
    ⟨a_Desk_do, f_Desk_do, k_Desk_do⟩,
    ⟨a_Desk_several, f_Desk_several, k_Desk_several⟩,
    ⟨a_Desk_labels, f_Desk_labels, k_Desk_labels⟩,
    nas_mk nb_Desk (by simp),
    nas_mk nb_Desk (by simp),
    nas_mk nb_Desk (by simp),
    nas_mk nb_Desk (by simp),
    _,
    .int _,
    PySem.W.mg_of X G a_DEEPEST,
    ⟨_, rfl⟩,
    .int _,
    _,
    .str _,
    PySem.W.mg_of X G a_LETTERS,
    ⟨_, rfl⟩,
    .str _,
    _,
    .int _,
    PySem.W.mg_of X G a_LONGEST_WORD,
    ⟨_, rfl⟩,
    .int _,
    x_MANY,
    PySem.W.mg_of X G a_MANY,
    ⟨_, _, ⟨l_MANY, q_MANY, u_MANY⟩, t_MANY⟩,
    _,
    .int _,
    PySem.W.mg_of X G a_MOST_PARTS,
    ⟨_, rfl⟩,
    .int _,
    _,
    .ref x_SIDES,
    PySem.W.mg_of X G a_SIDES,
    rfl,
    .tup (.inr ⟨o_SIDES, its_SIDES, n_SIDES, l_SIDES, h_SIDES⟩) (.cons (.str _) (.cons (.str _) .nil)),
    ⟨x_SIDES, rfl, ⟨o_SIDES, its_SIDES, n_SIDES, l_SIDES, h_SIDES.1, h_SIDES.2.1, h_SIDES.2.2.1, h_SIDES.2.2.2, td_SIDES⟩⟩,
    _,
    .ref x_WORDS_OF_TEXTS,
    PySem.W.mg_of X G a_WORDS_OF_TEXTS,
    rfl,
    .tup (.inr ⟨o_WORDS_OF_TEXTS, its_WORDS_OF_TEXTS, n_WORDS_OF_TEXTS, l_WORDS_OF_TEXTS, h_WORDS_OF_TEXTS⟩) (.cons (.str _) (.cons (.str _) (.cons (.str _) (.cons (.str _) (.cons (.str _) (.cons (.str _) (.cons (.str _) .nil))))))),
    x_NoRow,
    xi_NoRow,
    _,
    xc_mk (PySem.W.mg_of X G a_NoRow) l_NoRow i_NoRow F_NoRow b_NoRow o_NoRow,
    x_NoLabel,
    xi_NoLabel,
    _,
    xc_mk (PySem.W.mg_of X G a_NoLabel) l_NoLabel i_NoLabel F_NoLabel b_NoLabel o_NoLabel,
    vb_KeyError,
    vb_ValueError,
    en_NoLabel,
    en_NoRow,
    kit,
    cat_NoLabel,
    cat_NoRow,
    PySem.W.mg_none_of X G z_KeyError,
    PySem.W.mg_none_of X G z_ValueError,
    PySem.W.mg_none_of X G z_all,
    PySem.W.mg_none_of X G z_dict,
    PySem.W.mg_none_of X G z_enumerate,
    PySem.W.mg_none_of X G z_int,
    PySem.W.mg_none_of X G z_isinstance,
    PySem.W.mg_none_of X G z_len,
    PySem.W.mg_none_of X G z_list,
    PySem.W.mg_none_of X G z_max,
    PySem.W.mg_none_of X G z_min,
    PySem.W.mg_none_of X G z_range,
    PySem.W.mg_none_of X G z_sorted,
    PySem.W.mg_none_of X G z_str,
    PySem.W.mg_none_of X G z_tuple⟩
  exact ⟨T.fd_law, fun s v => .of_eq rfl, fun base _ _ => law_of (oks T 90).o_law law_holds⟩
end Law
open PySem PySem.W PyProof.Rows
set_option maxRecDepth 100000 in
set_option maxHeartbeats 0 in
theorem PySem.Challenge.cw_middlesay_k93_desk_deeds_holds : PySem.Challenge.rw_middlesay_k93_desk_deeds.Holds := by
  w_on; o_law; k_head; (case hw => w_witness2)
  k_fill
  refine L2.walk_of (l := PySem.Challenge.rw_middlesay_k93_desk_deeds) (n := 63) (k := 182) (x := "_law_script") (CX := fun w => L2.CX PySem.Challenge.pw_middlesay_k93_desk_deeds w) (sp := fun w => DL.spLaw _ 63) rfl (by decide) rfl ⟨rfl, by decide, by decide⟩ (fun w h Y => PySem.W.kIn_of Y) ?F (fun _ _ a ns hl ho hS => ⟨a, ns, rfl, ho, hS, hl, fun _ => rfl⟩) (fun _ _ _ _ _ h => DL.cx_none h)
  case F =>
    intro w mg fa h KX G hmg
    refine' Law.all_mk KX G hmg ?a_is_word ?l_is_word ?c_is_word ?k_is_word ?a_parts_in ?l_parts_in ?c_parts_in ?k_parts_in ?a_is_saying ?l_is_saying ?c_is_saying ?k_is_saying ?a_is_row ?l_is_row ?c_is_row ?k_is_row ?a__law_tape ?l__law_tape ?c__law_tape ?k__law_tape ?a__law_draw ?l__law_draw ?c__law_draw ?k__law_draw ?a__law_words ?l__law_words ?c__law_words ?k__law_words ?a__law_saying ?l__law_saying ?c__law_saying ?k__law_saying ?a__law_desk_row ?l__law_desk_row ?c__law_desk_row ?k__law_desk_row ?a__law_after ?l__law_after ?c__law_after ?k__law_after ?a__law_bad ?l__law_bad ?c__law_bad ?k__law_bad ?a__law_told ?l__law_told ?c__law_told ?k__law_told ?a__law_right ?l__law_right ?c__law_right ?k__law_right ?a__law_several ?l__law_several ?c__law_several ?k__law_several ?a__law_many ?l__law_many ?c__law_many ?k__law_many ?a_law ?l_law ?c_law ?k_law ?a_Desk ?a_Desk___init__ ?l_Desk___init__ ?c_Desk___init__ ?k_Desk___init__ ?f_Desk___init__ ?a_Desk_note ?l_Desk_note ?c_Desk_note ?k_Desk_note ?f_Desk_note ?a_Desk_put ?l_Desk_put ?c_Desk_put ?k_Desk_put ?f_Desk_put ?a_Desk_need ?l_Desk_need ?c_Desk_need ?k_Desk_need ?f_Desk_need ?a_Desk_drop ?l_Desk_drop ?c_Desk_drop ?k_Desk_drop ?f_Desk_drop ?a_Desk_move ?l_Desk_move ?c_Desk_move ?k_Desk_move ?f_Desk_move ?a_Desk_undo ?l_Desk_undo ?c_Desk_undo ?k_Desk_undo ?f_Desk_undo ?a_Desk_deeds ?l_Desk_deeds ?c_Desk_deeds ?k_Desk_deeds ?f_Desk_deeds ?a_Desk_do ?l_Desk_do ?c_Desk_do ?k_Desk_do ?f_Desk_do ?a_Desk_several ?l_Desk_several ?c_Desk_several ?k_Desk_several ?f_Desk_several ?a_Desk_labels ?l_Desk_labels ?c_Desk_labels ?k_Desk_labels ?f_Desk_labels ?cb_Desk ?nb_Desk ?a_DEEPEST ?a_LETTERS ?a_LONGEST_WORD ?a_MANY ?l_MANY ?q_MANY ?u_MANY ?t_MANY ?a_MOST_PARTS ?a_SIDES ?l_SIDES ?h_SIDES ?td_SIDES ?a_WORDS_OF_TEXTS ?l_WORDS_OF_TEXTS ?h_WORDS_OF_TEXTS ?a_NoRow ?l_NoRow ?i_NoRow ?li_NoRow ?ci_NoRow ?ki_NoRow ?o_NoRow ?a_NoLabel ?l_NoLabel ?i_NoLabel ?li_NoLabel ?ci_NoLabel ?ki_NoLabel ?o_NoLabel ?vb_KeyError ?vb_ValueError ?en_NoLabel ?en_NoRow ?kit ?cat_NoLabel ?cat_NoRow ?z_KeyError ?z_ValueError ?z_all ?z_dict ?z_enumerate ?z_int ?z_isinstance ?z_len ?z_list ?z_max ?z_min ?z_range ?z_sorted ?z_str ?z_tuple
    (case a_is_word => k_is)
    (case l_is_word => k_is)
    (case c_is_word => k_is)
    (case k_is_word => k_is)
    (case a_parts_in => k_is)
    (case l_parts_in => k_is)
    (case c_parts_in => k_is)
    (case k_parts_in => k_is)
    (case a_is_saying => k_is)
    (case l_is_saying => k_is)
    (case c_is_saying => k_is)
    (case k_is_saying => k_is)
    (case a_is_row => k_is)
    (case l_is_row => k_is)
    (case c_is_row => k_is)
    (case k_is_row => k_is)
    (case a__law_tape => k_is)
    (case l__law_tape => k_is)
    (case c__law_tape => k_is)
    (case k__law_tape => k_is)
    (case a__law_draw => k_is)
    (case l__law_draw => k_is)
    (case c__law_draw => k_is)
    (case k__law_draw => k_is)
    (case a__law_words => k_is)
    (case l__law_words => k_is)
    (case c__law_words => k_is)
    (case k__law_words => k_is)
    (case a__law_saying => k_is)
    (case l__law_saying => k_is)
    (case c__law_saying => k_is)
    (case k__law_saying => k_is)
    (case a__law_desk_row => k_is)
    (case l__law_desk_row => k_is)
    (case c__law_desk_row => k_is)
    (case k__law_desk_row => k_is)
    (case a__law_after => k_is)
    (case l__law_after => k_is)
    (case c__law_after => k_is)
    (case k__law_after => k_is)
    (case a__law_bad => k_is)
    (case l__law_bad => k_is)
    (case c__law_bad => k_is)
    (case k__law_bad => k_is)
    (case a__law_told => k_is)
    (case l__law_told => k_is)
    (case c__law_told => k_is)
    (case k__law_told => k_is)
    (case a__law_right => k_is)
    (case l__law_right => k_is)
    (case c__law_right => k_is)
    (case k__law_right => k_is)
    (case a__law_several => k_is)
    (case l__law_several => k_is)
    (case c__law_several => k_is)
    (case k__law_several => k_is)
    (case a__law_many => k_is)
    (case l__law_many => k_is)
    (case c__law_many => k_is)
    (case k__law_many => k_is)
    (case a_law => k_is)
    (case l_law => k_is)
    (case c_law => k_is)
    (case k_law => k_is)
    (case a_Desk => k_is)
    (case a_Desk___init__ => k_is)
    (case l_Desk___init__ => k_is)
    (case c_Desk___init__ => k_is)
    (case k_Desk___init__ => k_is)
    (case f_Desk___init__ => k_is)
    (case a_Desk_note => k_is)
    (case l_Desk_note => k_is)
    (case c_Desk_note => k_is)
    (case k_Desk_note => k_is)
    (case f_Desk_note => k_is)
    (case a_Desk_put => k_is)
    (case l_Desk_put => k_is)
    (case c_Desk_put => k_is)
    (case k_Desk_put => k_is)
    (case f_Desk_put => k_is)
    (case a_Desk_need => k_is)
    (case l_Desk_need => k_is)
    (case c_Desk_need => k_is)
    (case k_Desk_need => k_is)
    (case f_Desk_need => k_is)
    (case a_Desk_drop => k_is)
    (case l_Desk_drop => k_is)
    (case c_Desk_drop => k_is)
    (case k_Desk_drop => k_is)
    (case f_Desk_drop => k_is)
    (case a_Desk_move => k_is)
    (case l_Desk_move => k_is)
    (case c_Desk_move => k_is)
    (case k_Desk_move => k_is)
    (case f_Desk_move => k_is)
    (case a_Desk_undo => k_is)
    (case l_Desk_undo => k_is)
    (case c_Desk_undo => k_is)
    (case k_Desk_undo => k_is)
    (case f_Desk_undo => k_is)
    (case a_Desk_deeds => k_is)
    (case l_Desk_deeds => k_is)
    (case c_Desk_deeds => k_is)
    (case k_Desk_deeds => k_is)
    (case f_Desk_deeds => k_is)
    (case a_Desk_do => k_is)
    (case l_Desk_do => k_is)
    (case c_Desk_do => k_is)
    (case k_Desk_do => k_is)
    (case f_Desk_do => k_is)
    (case a_Desk_several => k_is)
    (case l_Desk_several => k_is)
    (case c_Desk_several => k_is)
    (case k_Desk_several => k_is)
    (case f_Desk_several => k_is)
    (case a_Desk_labels => k_is)
    (case l_Desk_labels => k_is)
    (case c_Desk_labels => k_is)
    (case k_Desk_labels => k_is)
    (case f_Desk_labels => k_is)
    (case cb_Desk => kernel_rfl)
    (case nb_Desk => kernel_rfl)
    (case a_DEEPEST => k_is)
    (case a_LETTERS => k_is)
    (case a_LONGEST_WORD => k_is)
    (case a_MANY => k_is)
    (case l_MANY => k_is)
    (case q_MANY => exact ⟨⟨_, _, rfl, rfl⟩, ⟨_, _, rfl, rfl⟩, ⟨_, _, rfl, rfl⟩, ⟨_, _, rfl, rfl⟩, ⟨_, _, rfl, rfl⟩, ⟨_, _, rfl, rfl⟩, ⟨_, _, rfl, rfl⟩, True.intro⟩)
    (case u_MANY => decide)
    (case t_MANY => exact (DL.TabOk.i rfl rfl (DL.TabOk.i rfl rfl (DL.TabOk.i rfl rfl (DL.TabOk.i rfl rfl (DL.TabOk.i rfl rfl (DL.TabOk.i rfl rfl (DL.TabOk.i rfl rfl .nil))))))))
    (case a_MOST_PARTS => k_is)
    (case a_SIDES => k_is)
    (case l_SIDES => k_is)
    (case h_SIDES => exact ⟨rfl, rfl, by decide, (.cons ⟨_, rfl⟩ (.cons ⟨_, rfl⟩ .nil))⟩)
    (case td_SIDES => exact rfl)
    (case a_WORDS_OF_TEXTS => k_is)
    (case l_WORDS_OF_TEXTS => k_is)
    (case h_WORDS_OF_TEXTS => exact ⟨rfl, rfl, by decide, (.cons ⟨_, rfl⟩ (.cons ⟨_, rfl⟩ (.cons ⟨_, rfl⟩ (.cons ⟨_, rfl⟩ (.cons ⟨_, rfl⟩ (.cons ⟨_, rfl⟩ (.cons ⟨_, rfl⟩ .nil)))))))⟩)
    (case a_NoRow => k_is)
    (case l_NoRow => k_is)
    (case i_NoRow => k_is)
    (case li_NoRow => k_is)
    (case ci_NoRow => k_is)
    (case ki_NoRow => k_is)
    (case o_NoRow => kernel_rfl)
    (case a_NoLabel => k_is)
    (case l_NoLabel => k_is)
    (case i_NoLabel => k_is)
    (case li_NoLabel => k_is)
    (case ci_NoLabel => k_is)
    (case ki_NoLabel => k_is)
    (case o_NoLabel => kernel_rfl)
    (case vb_KeyError => k_is)
    (case vb_ValueError => k_is)
    (case en_NoLabel => kernel_rfl)
    (case en_NoRow => kernel_rfl)
    (case kit => kernel_rfl)
    (case cat_NoLabel => kernel_rfl)
    (case cat_NoRow => kernel_rfl)
    (case z_KeyError => k_is)
    (case z_ValueError => k_is)
    (case z_all => k_is)
    (case z_dict => k_is)
    (case z_enumerate => k_is)
    (case z_int => k_is)
    (case z_isinstance => k_is)
    (case z_len => k_is)
    (case z_list => k_is)
    (case z_max => k_is)
    (case z_min => k_is)
    (case z_range => k_is)
    (case z_sorted => k_is)
    (case z_str => k_is)
    (case z_tuple => k_is)
