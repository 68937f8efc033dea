import PyProof.Rows.All
import Wide.All
import OpenK.AllK
import Wide.FinOn
import HandS.ForMost
import HandS.ForExc
import HandS.TupAny
import HandS.Flow
import HandS.IsInst
import HandS.Wide
import HandS.Deep
import HandS.CallSlots
import HandS.More
import KE.KDictKeyed
import HandS.WideBits
import KE.KExcInit
import HandS.ExcInit
import HandS.ExcField
import HandS.ExcIs
import KE.KExcIs
import HandS.Set
import HandS.SetFor
import HandS.Strs
import HandS.DeepEq
import KE.KEqDict
import KE.SortCalls
import HandS.TupSets
import KE.KeyNested
import HandS.StrMore
import HandS.Style
import HandS.RaiseMore
import PyProof.StrOps2
import HandS.ListItems
import HandS.DictTup
import HandS.OwnEq
import HandS.Zip
import HandS.Codes
import HandS.Zip0
import PyProof.EnumMake
import PyProof.Draws
import HandS.TupMul
import HandS.DictComp
import HandS.Conv
import HandS.RevRange
import KE.KRevSl
import HandS.TupLe
import HandS.Defaults
import HandS.MakeKwOnly
import PyProof.InstNe
import PyProof.NeKinds
import PyProof.Rows.ReprR
import KE.KCallOwn
import KE.KUnpack
import KE.SortKeyHeap
import PyProof.MeetsSeq2
import PySem.Challenge.RW_middlesay_k03_tables_of_truth
set_option Elab.async false
set_option linter.all false
set_option maxRecDepth 100000
namespace DL
open PySem PySem.Spec L2
inductive U where
  | non | bl (b : Bool) | int (i : Int) | str (x : Str)
  | tup (us : List U) | lst (us : List U) | frz (us : List U)
  | dic (ks : List Key) (us : List U)
  | loc (n : Nat)
  | ty (n : String)
  | exc (cls fld : Str) (arg : U)
  | cl (c : Str)
inductive Ob where
  | lst (us : List U) | dic (ks : List Key) (us : List U) | ins (c : Str) (fs : List (Str × U)) | kd (ks us : List U) | dead
abbrev Sto := List Ob
mutual
def keyN : U → Option NestedKey
  | .non => some .none
  | .bl b => some (.num (if b = true then 1 else 0))
  | .int i => some (.num i)
  | .str x => some (.text x)
  | .tup us => (keyNs us).map .tup
  | _ => none
def keyNs : List U → Option (List NestedKey)
  | [] => some []
  | u :: us => match keyN u, keyNs us with
    | some k, some ks => some (k :: ks)
    | _, _ => none
end
def keyT (u : U) : Option NestedKey := match keyN u with
  | some (.tup ks) => if (NestedKey.tup ks).depth ≤ 8 then some (.tup ks) else none
  | _ => none
def KdH (P : Program) (w : World) (a : Addr) (L : List (NestedKey × Addr × V)) (h : Heap) : Prop :=
  (a == sysModules) = false ∧ L.length ≤ sizeLine ∧ ∃ (o : Obj) (es : Array DictEntry) (ep : Nat) (xs : List (NestedKey × Addr × Value)), h.get? a = some o ∧ o.ExactDict ∧ o.data = .dict es ep ∧ es.toList = xs.map (entryOfKey (nestedKind P w)) ∧ (xs.map (·.1)).Nodup ∧
    L.map (fun x => (x.1, x.2.1)) = xs.map (fun x => (x.1, x.2.1)) ∧ Vals (L.map (·.2.2)) (xs.map (·.2.2))
def KdO (P : Program) (w : World) (a : Addr) (L : List (NestedKey × Addr × V)) : HO := .ext (KdH P w a L)
structure Exc where
  cls : Str
  fld : Str
  arg : U
inductive R (α : Type) where
  | ok (a : α) (S : Sto) | exc (x : Exc) (S : Sto) | bad
abbrev En := List (Option U)
def R.bind {α β : Type} (r : R α) (k : α → Sto → R β) : R β := match r with
  | .ok a S => k a S
  | .exc x S => .exc x S
  | .bad => .bad
def Pst {α : Type} (r : R α) (P : α → Sto → Prop) (E : Exc → Sto → Prop) : Prop := match r with
  | .ok a S => P a S
  | .exc x S => E x S
  | .bad => False
theorem Pst.of_bind {α β : Type} {r : R α} {k : α → Sto → R β} {P : β → Sto → Prop} {E : Exc → Sto → Prop} (h : Pst (r.bind k) P E) : Pst r (fun a S => Pst (k a S) P E) E := by
  cases r <;> exact h
theorem Pst.mono {α : Type} {r : R α} {P P' : α → Sto → Prop} {E E' : Exc → Sto → Prop} (h : Pst r P E) (hp : ∀ a S, P a S → P' a S) (he : ∀ x S, E x S → E' x S) : Pst r P' E' := by
  cases r with
  | ok a S => exact hp _ _ h
  | exc x S => exact he _ _ h
  | bad => exact h
structure Wd where
  m : List Addr
  S : Sto
  H : Hp
  r : List Addr
def Wd.kept (w : Wd) (a : Addr) : Prop := ∃ (n : Nat) (o : Ob), w.m[n]? = some a ∧ w.S[n]? = some o ∧ o ≠ Ob.dead
def Wd.live (w : Wd) (a : Addr) : Prop := a ∈ w.r ∨ w.kept a
def FzL (K : PySem.W.Frag) (H : Hp) (a : Addr) (xs : List V) : Prop := (∃ o, H a = some (.frz o (.lst xs))) ∨
    ∃ (o : Obj) (its : Array Value) (n : Nat), K.lookup a = some o ∧ o.cls = .type "list" ∧ o.dict = none ∧ o.data = .seq its n ∧ its.size ≤ sizeLine ∧ Vals xs its.toList
theorem FzL.sq {K : PySem.W.Frag} {H : Hp} {a : Addr} {xs : List V} (h : FzL K H a xs) : SqL K H a xs := by
  rcases h with h | h
  · exact .inl (.inr h)
  · exact .inr h
def TqT (K : PySem.W.Frag) (H : Hp) (a : Addr) (xs : List V) : Prop := H a = some (.tup xs) ∨
    ∃ (o : Obj) (its : Array Value) (n : Nat), K.lookup a = some o ∧ o.cls = .type "tuple" ∧ o.data = .seq its n ∧ its.size ≤ sizeLine ∧ Vals xs its.toList
theorem TqT.sq {K : PySem.W.Frag} {H : Hp} {a : Addr} {xs : List V} (h : TqT K H a xs) : SqT K H a xs := by
  rcases h with h | h
  · exact .inl (.inl h)
  · exact .inr h
theorem TqT.of {K : PySem.W.Frag} {H : Hp} {a : Addr} {xs : List V} (h : H a = some (.tup xs)) : TqT K H a xs := .inl h
structure KM where
  K : PySem.W.Frag
  mg : Str → Option Value
  P : Program
  wd : World
instance : Coe KM PySem.W.Frag := ⟨KM.K⟩
def exv (a C d : Addr) : HO := .ext fun h => ∃ (oe : Obj) (vs : Array Value), h.get? a = some oe ∧ Zc (.ref C) (some d) oe ∧ oe.data = .fields vs
theorem exv_kd {a b C d : Addr} {P : Program} {w : World} {L : List (NestedKey × Addr × V)} (h : exv b C d = KdO P w a L) : False := by
  unfold exv KdO at h
  have e := congrFun (HO.ext.inj h) ⟨(List.replicate (a + b + 1) { cls := .ref C, dict := some d, data := .fields #[] }).toArray, {}⟩
  have g : ∀ c, c < a + b + 1 → (⟨(List.replicate (a + b + 1) { cls := .ref C, dict := some d, data := .fields #[] }).toArray, {}⟩ : Heap).get? c = some { cls := .ref C, dict := some d, data := .fields #[] } := fun c hc => by
    unfold Heap.get?
    simp [List.getElem?_replicate, hc]
  have l := e.mp ⟨_, #[], g b (Nat.lt_succ_of_le (Nat.le_add_left b a)), ⟨rfl, rfl⟩, rfl⟩
  obtain ⟨_, _, o, es, ep, xs, h1, h2, _⟩ := l
  rw [g a (Nat.lt_succ_of_le (Nat.le_add_right a b))] at h1
  cases h1
  exact nomatch h2.1
abbrev KMof (X : Cx) : KM := ⟨X.K, X.mg, X.prog, X.w⟩
mutual
inductive VR (K : KM) (w : Wd) : U → V → Prop
  | non : VR K w .non .non
  | bl (b : Bool) : VR K w (.bl b) (.bl b)
  | int (i : Int) : VR K w (.int i) (.int i)
  | str (x : Str) : VR K w (.str x) (.str x)
  | tup {a : Addr} {xs : List V} {us : List U} : TqT K w.H a xs → VRs K w us xs → VR K w (.tup us) (.ref a)
  | lst {a : Addr} {xs : List V} {us : List U} : w.H a = some (.lst xs) → ¬ w.live a → VRs K w us xs → VR K w (.lst us) (.ref a)
  | frz {a : Addr} {xs : List V} {us : List U} : FzL K w.H a xs → VRs K w us xs → VR K w (.frz us) (.ref a)
  | dic {a : Addr} {ks : List Key} {xs : List V} {us : List U} : w.H a = some (.dK (ks.zip xs)) → ¬ w.live a → ks.length = us.length → VRs K w us xs → VR K w (.dic ks us) (.ref a)
  | loc {n : Nat} {a : Addr} : w.m[n]? = some a → VR K w (.loc n) (.ref a)
  | ty (n : String) : VR K w (.ty n) (.ty n)
  | exc {a d C : Addr} {v : V} {c f : Str} {u : U} : w.H a = some (exv a C d) → w.H d = some (.xd [(f, v)]) → K.mg c = some (.ref C) → VR K w u v → VR K w (.exc c f u) (.ref a)
  | cl {C : Addr} {c : Str} : K.mg c = some (.ref C) → VR K w (.cl c) (.ref C)
inductive VRs (K : KM) (w : Wd) : List U → List V → Prop
  | nil : VRs K w [] []
  | cons {u : U} {us : List U} {v : V} {vs : List V} : VR K w u v → VRs K w us vs → VRs K w (u :: us) (v :: vs)
end
structure Ext (w w' : Wd) : Prop where
  m : ∃ l, w'.m = w.m ++ l
  keep : ∀ a o, w.H a = some o → ¬ w.live a → w'.H a = some o
  live : ∀ a, w'.live a → w.live a ∨ w.H a = none
theorem Ext.refl (w : Wd) : Ext w w := ⟨⟨[], (List.append_nil _).symm⟩, fun _ _ h _ => h, fun _ h => .inl h⟩
theorem Ext.trans {w w1 w2 : Wd} (a : Ext w w1) (b : Ext w1 w2) : Ext w w2 := by
  obtain ⟨l1, e1⟩ := a.m
  obtain ⟨l2, e2⟩ := b.m
  refine ⟨⟨l1 ++ l2, by rw [e2, e1, List.append_assoc]⟩, fun c o h n => ?_, fun c h => ?_⟩
  · refine b.keep c o (a.keep c o h n) fun q => ?_
    rcases a.live c q with z | z
    · exact n z
    · rw [h] at z; cases z
  · rcases b.live c h with z | z
    · exact a.live c z
    · cases q : w.H c with
      | none => exact .inr rfl
      | some o =>
        by_cases n : w.live c
        · exact .inl n
        · rw [a.keep c o q n] at z; cases z
def OR (K : KM) (w : Wd) : Ob → Addr → Prop
  | .lst us, a => ∃ xs, w.H a = some (.lst xs) ∧ VRs K w us xs
  | .dic ks us, a => ∃ xs, w.H a = some (.dK (ks.zip xs)) ∧ ks.length = us.length ∧ VRs K w us xs
  | .ins c fs, a => ∃ C dx xs, K.mg c = some (.ref C) ∧ w.H a = some (.ins C dx ((fs.map (·.1)).zip xs)) ∧ VRs K w (fs.map (·.2)) xs
  | .kd ks us, a => ∃ L : List (NestedKey × Addr × V), w.H a = some (KdO K.P K.wd a L) ∧ VRs K w ks (L.map fun x => V.ref x.2.1) ∧ ks.map keyT = L.map (fun x => some x.1) ∧ VRs K w us (L.map (·.2.2))
  | .dead, _ => True
def MutO (o : HO) : Prop := (∃ xs, o = .lst xs) ∨ ∃ kvs, o = .dK kvs
def MutK (K : KM) (a : Addr) (o : HO) : Prop := MutO o ∨ (∃ C dx fs, o = .ins C dx fs) ∨ ∃ L, o = KdO K.P K.wd a L
structure SR (K : KM) (w : Wd) : Prop where
  len : w.m.length = w.S.length
  inj : ∀ (i j : Nat) (a : Addr) (o o' : Ob), w.m[i]? = some a → w.m[j]? = some a → w.S[i]? = some o → w.S[j]? = some o' → o ≠ Ob.dead → o' ≠ .dead → i = j
  obj : ∀ (n : Nat) (a : Addr) (o : Ob), w.m[n]? = some a → w.S[n]? = some o → OR K w o a
  rk : ∀ a ∈ w.r, ∃ o, w.H a = some o ∧ MutK K a o
  rd : ∀ a ∈ w.r, ¬ w.kept a
section
variable {K : KM} {w w' : Wd}
theorem SR.kind (s : SR K w) {a : Addr} (h : w.live a) : (∃ xs, w.H a = some (.lst xs)) ∨ (∃ kvs, w.H a = some (.dK kvs)) ∨ (∃ C dx fs, w.H a = some (.ins C dx fs)) ∨ ∃ L, w.H a = some (KdO K.P K.wd a L) := by
  rcases h with h | h
  · obtain ⟨o, e, m⟩ := s.rk a h
    rcases m with (⟨xs, q⟩ | ⟨xs, q⟩) | ⟨C, dx, fs, q⟩ | ⟨L, q⟩
    · exact .inl ⟨xs, by rw [← q]; exact e⟩
    · exact .inr (.inl ⟨xs, by rw [← q]; exact e⟩)
    · exact .inr (.inr (.inl ⟨C, dx, fs, by rw [← q]; exact e⟩))
    · exact .inr (.inr (.inr ⟨L, by rw [← q]; exact e⟩))
  obtain ⟨n, o, h1, h2, h3⟩ := h
  have q := s.obj n a o h1 h2
  cases o with
  | lst us => obtain ⟨xs, e, _⟩ := q; exact .inl ⟨xs, e⟩
  | dic ks us => obtain ⟨xs, e, _⟩ := q; exact .inr (.inl ⟨_, e⟩)
  | ins c fs => obtain ⟨C, dx, xs, _, e, _⟩ := q; exact .inr (.inr (.inl ⟨_, _, _, e⟩))
  | kd ks us => obtain ⟨L, e, _⟩ := q; exact .inr (.inr (.inr ⟨L, e⟩))
  | dead => exact absurd rfl h3
theorem SR.notup (s : SR K w) {a : Addr} {xs : List V} (e : w.H a = some (.tup xs)) : ¬ w.live a := fun h => by
  rcases s.kind h with ⟨_, q⟩ | ⟨_, q⟩ | ⟨_, _, _, q⟩ | ⟨_, q⟩ <;> (rw [e] at q; cases q)
theorem SR.nofrz (s : SR K w) {a : Addr} {o : Obj} {u : HO} (e : w.H a = some (.frz o u)) : ¬ w.live a := fun h => by
  rcases s.kind h with ⟨_, q⟩ | ⟨_, q⟩ | ⟨_, _, _, q⟩ | ⟨_, q⟩ <;> (rw [e] at q; cases q)
theorem SR.noexv (s : SR K w) {a b C d : Addr} (e : w.H a = some (exv b C d)) : ¬ w.live a := fun h => by
  rcases s.kind h with ⟨_, q⟩ | ⟨_, q⟩ | ⟨_, _, _, q⟩ | ⟨L, q⟩
  · unfold exv at e; rw [e] at q; cases q
  · unfold exv at e; rw [e] at q; cases q
  · unfold exv at e; rw [e] at q; cases q
  · rw [e] at q
    exact exv_kd (Option.some.inj q)
theorem SR.noxd (s : SR K w) {a : Addr} {fs : List (Str × V)} (e : w.H a = some (.xd fs)) : ¬ w.live a := fun h => by
  rcases s.kind h with ⟨_, q⟩ | ⟨_, q⟩ | ⟨_, _, _, q⟩ | ⟨_, q⟩ <;> (rw [e] at q; cases q)
theorem Ext.sqT (x : Ext w w') (s : SR K w) {a : Addr} {xs : List V} (h : TqT K w.H a xs) : TqT K w'.H a xs := by
  rcases h with h | h
  · exact .inl (x.keep _ _ h (s.notup h))
  · exact .inr h
theorem Ext.fz (x : Ext w w') (s : SR K w) {a : Addr} {xs : List V} (h : FzL K w.H a xs) : FzL K w'.H a xs := by
  rcases h with ⟨o, h⟩ | h
  · exact .inl ⟨o, x.keep _ _ h (s.nofrz h)⟩
  · exact .inr h
theorem Ext.dead (x : Ext w w') {a : Addr} {o : HO} (e : w.H a = some o) (n : ¬ w.live a) : ¬ w'.live a := fun h => by
  rcases x.live a h with z | z
  · exact n z
  · rw [e] at z; cases z
theorem Ext.at (x : Ext w w') {n : Nat} {a : Addr} (h : w.m[n]? = some a) : w'.m[n]? = some a := by
  obtain ⟨l, e⟩ := x.m
  rw [e]
  obtain ⟨hn, _⟩ := List.getElem?_eq_some_iff.mp h
  rw [List.getElem?_append_left hn]
  exact h
mutual
theorem VR.ext (x : Ext w w') (s : SR K w) : ∀ {u : U} {v : V}, VR K w u v → VR K w' u v
  | _, _, .non => .non
  | _, _, .bl b => .bl b
  | _, _, .int i => .int i
  | _, _, .str y => .str y
  | _, _, .tup h r => .tup (x.sqT s h) (VRs.ext x s r)
  | _, _, .lst h n r => .lst (x.keep _ _ h n) (x.dead h n) (VRs.ext x s r)
  | _, _, .frz h r => .frz (x.fz s h) (VRs.ext x s r)
  | _, _, .dic h n l r => .dic (x.keep _ _ h n) (x.dead h n) l (VRs.ext x s r)
  | _, _, .loc h => .loc (x.at h)
  | _, _, .ty n => .ty n
  | _, _, .exc h h2 c r => .exc (x.keep _ _ h (s.noexv h)) (x.keep _ _ h2 (s.noxd h2)) c (VR.ext x s r)
  | _, _, .cl h => .cl h
theorem VRs.ext (x : Ext w w') (s : SR K w) : ∀ {us : List U} {vs : List V}, VRs K w us vs → VRs K w' us vs
  | _, _, .nil => .nil
  | _, _, .cons h r => .cons (VR.ext x s h) (VRs.ext x s r)
end
theorem VRs.length : ∀ {us : List U} {vs : List V}, VRs K w us vs → us.length = vs.length
  | _, _, .nil => rfl
  | _, _, .cons _ r => by rw [List.length_cons, List.length_cons, VRs.length r]
theorem VRs.get : ∀ {us : List U} {vs : List V} {i : Nat} {u : U}, VRs K w us vs → us[i]? = some u → ∃ v, vs[i]? = some v ∧ VR K w u v
  | _, _, _, _, .nil, e => by simp at e
  | _, _, 0, _, .cons r _, e => by simp at e; subst e; exact ⟨_, rfl, r⟩
  | _, _, i + 1, u, .cons _ t, e => by
    obtain ⟨v, h1, h2⟩ := VRs.get (i := i) (u := u) t (by simpa using e)
    exact ⟨v, by simpa using h1, h2⟩
theorem VRs.append : ∀ {us us' : List U} {vs vs' : List V}, VRs K w us vs → VRs K w us' vs' → VRs K w (us ++ us') (vs ++ vs')
  | _, _, _, _, .nil, s => s
  | _, _, _, _, .cons r t, s => .cons r (VRs.append t s)
theorem VRs.take : ∀ {us : List U} {vs : List V} (n : Nat), VRs K w us vs → VRs K w (us.take n) (vs.take n)
  | _, _, 0, _ => by rw [List.take_zero, List.take_zero]; exact .nil
  | _, _, _ + 1, .nil => by rw [List.take_nil, List.take_nil]; exact .nil
  | _, _, n + 1, .cons r t => by rw [List.take_succ_cons, List.take_succ_cons]; exact .cons r (VRs.take n t)
theorem VRs.drop : ∀ {us : List U} {vs : List V} (n : Nat), VRs K w us vs → VRs K w (us.drop n) (vs.drop n)
  | _, _, 0, r => by rw [List.drop_zero, List.drop_zero]; exact r
  | _, _, _ + 1, .nil => by rw [List.drop_nil, List.drop_nil]; exact .nil
  | _, _, n + 1, .cons _ t => by rw [List.drop_succ_cons, List.drop_succ_cons]; exact VRs.drop n t
theorem VRs.set {u : U} {v : V} (r : VR K w u v) : ∀ {us : List U} {vs : List V} (i : Nat), VRs K w us vs → VRs K w (us.set i u) (vs.set i v)
  | _, _, _, .nil => by rw [List.set_nil, List.set_nil]; exact .nil
  | _, _, 0, .cons _ t => .cons r t
  | _, _, i + 1, .cons q t => .cons q (VRs.set r i t)
theorem VRs.snoc {us : List U} {vs : List V} {u : U} {v : V} (h : VRs K w us vs) (r : VR K w u v) : VRs K w (us ++ [u]) (vs ++ [v]) := h.append (.cons r .nil)
def Wd.new (w : Wd) (p : Addr) (o : HO) : Wd := ⟨w.m, w.S, upd w.H p o, w.r⟩
def Wd.push (w : Wd) (p : Addr) (o : HO) (b : Ob) : Wd := ⟨w.m ++ [p], w.S ++ [b], upd w.H p o, w.r⟩
def Wd.put (w : Wd) (n : Nat) (a : Addr) (o : HO) (b : Ob) : Wd := ⟨w.m, w.S.set n b, upd w.H a o, w.r⟩
def Wd.ice (w : Wd) (n : Nat) : Wd := ⟨w.m, w.S.set n .dead, w.H, w.r⟩
theorem SR.tracked (s : SR K w) {a : Addr} (h : w.live a) : w.H a ≠ none := fun e => by
  rcases s.kind h with ⟨_, q⟩ | ⟨_, q⟩ | ⟨_, _, _, q⟩ | ⟨_, q⟩ <;> (rw [e] at q; cases q)
theorem Ext.new (s : SR K w) {p : Addr} {o : HO} (hp : w.H p = none) : Ext w (w.new p o) :=
  ⟨⟨[], (List.append_nil _).symm⟩, fun a u h _ => by
    show upd w.H p o a = some u
    rw [upd_ne (ne_of_none h hp)]; exact h, fun _ h => .inl h⟩
theorem OR.ext (x : Ext w w') (s : SR K w) {o : Ob} {a : Addr} (h : OR K w o a) (e : w'.H a = w.H a) : OR K w' o a := by
  cases o with
  | lst us => obtain ⟨xs, q, r⟩ := h; exact ⟨xs, e.trans q, r.ext x s⟩
  | dic ks us => obtain ⟨xs, q, l, r⟩ := h; exact ⟨xs, e.trans q, l, r.ext x s⟩
  | ins c fs => obtain ⟨C, dx, xs, m, q, r⟩ := h; exact ⟨C, dx, xs, m, e.trans q, r.ext x s⟩
  | kd ks us => obtain ⟨L, q, r1, r2, r3⟩ := h; exact ⟨L, e.trans q, r1.ext x s, r2, r3.ext x s⟩
  | dead => trivial
theorem SR.new (s : SR K w) {p : Addr} {o : HO} (hp : w.H p = none) : SR K (w.new p o) := by
  have x := Ext.new s (o := o) hp
  refine ⟨s.len, s.inj, fun n a b h1 h2 => ?_, fun a h => ?_, s.rd⟩
  · by_cases hb : b = .dead
    · subst hb; trivial
    · refine (s.obj n a b h1 h2).ext x s ?_
      show upd w.H p o a = w.H a
      rw [upd_ne fun e => ?_]
      subst e
      exact s.tracked (.inr ⟨n, b, h1, h2, hb⟩) hp
  · obtain ⟨xs, e, mo⟩ := s.rk a h
    exact ⟨xs, by show upd w.H p o a = _; rw [upd_ne (ne_of_none e hp)]; exact e, mo⟩
theorem get_snoc {α : Type} {l : List α} {x y : α} {n : Nat} (h : (l ++ [x])[n]? = some y) : l[n]? = some y ∨ (n = l.length ∧ y = x) := by
  by_cases hn : n < l.length
  · rw [List.getElem?_append_left hn] at h; exact .inl h
  · rw [List.getElem?_append_right (by omega)] at h
    have e : n - l.length = 0 := by
      cases q : n - l.length with
      | zero => rfl
      | succ k => rw [q] at h; simp at h
    rw [e] at h
    simp at h
    exact .inr ⟨by omega, h.symm⟩
theorem Wd.kept_push {p a : Addr} {o : HO} {b : Ob} (hl : w.m.length = w.S.length) (h : (w.push p o b).kept a) : w.kept a ∨ a = p := by
  obtain ⟨n, c, h1, h2, h3⟩ := h
  have h1 : (w.m ++ [p])[n]? = some a := h1
  have h2 : (w.S ++ [b])[n]? = some c := h2
  rcases get_snoc h1 with z | ⟨z, e⟩
  · rcases get_snoc h2 with y | ⟨y, _⟩
    · exact .inl ⟨n, c, z, y, h3⟩
    · have := (List.getElem?_eq_some_iff.mp z).1
      omega
  · exact .inr e
theorem Wd.live_push {p a : Addr} {o : HO} {b : Ob} (hl : w.m.length = w.S.length) (h : (w.push p o b).live a) : w.live a ∨ a = p := by
  rcases h with h | h
  · exact .inl (.inl h)
  · rcases Wd.kept_push hl h with z | z
    · exact .inl (.inr z)
    · exact .inr z
theorem Ext.push (s : SR K w) {p : Addr} {o : HO} {b : Ob} (hp : w.H p = none) : Ext w (w.push p o b) := by
  refine ⟨⟨[p], rfl⟩, fun a u h _ => ?_, fun a h => ?_⟩
  · show upd w.H p o a = some u
    rw [upd_ne (ne_of_none h hp)]; exact h
  · rcases Wd.live_push s.len h with z | z
    · exact .inl z
    · subst z; exact .inr hp
theorem SR.push (s : SR K w) {p : Addr} {o : HO} {b : Ob} (hp : w.H p = none) (hb : OR K (w.push p o b) b p) : SR K (w.push p o b) := by
  have x := Ext.push s (o := o) (b := b) hp
  have old : ∀ {n : Nat} {a : Addr} {c : Ob}, w.m[n]? = some a → w.S[n]? = some c → c ≠ Ob.dead → a ≠ p := fun {n a c} h1 h2 h3 e => by
    subst e
    exact s.tracked (.inr ⟨n, c, h1, h2, h3⟩) hp
  refine ⟨by show (w.m ++ [p]).length = (w.S ++ [b]).length; simp [s.len], fun i j a c c' h1 h2 h3 h4 d d' => ?_, fun n a c h1 h2 => ?_, fun a h => ?_, fun a h q => ?_⟩
  · have h1 : (w.m ++ [p])[i]? = some a := h1
    have h2 : (w.m ++ [p])[j]? = some a := h2
    have h3 : (w.S ++ [b])[i]? = some c := h3
    have h4 : (w.S ++ [b])[j]? = some c' := h4
    have hl := s.len
    rcases get_snoc h1 with z1 | ⟨z1, e1⟩ <;> rcases get_snoc h2 with z2 | ⟨z2, e2⟩ <;> rcases get_snoc h3 with z3 | ⟨z3, e3⟩ <;> rcases get_snoc h4 with z4 | ⟨z4, e4⟩
    all_goals first
      | omega
      | exact s.inj i j a c c' z1 z2 z3 z4 d d'
      | exact absurd e2 (old z1 z3 d)
      | exact absurd e1 (old z2 z4 d')
      | (have := (List.getElem?_eq_some_iff.mp z1).1; omega)
      | (have := (List.getElem?_eq_some_iff.mp z2).1; omega)
      | (have := (List.getElem?_eq_some_iff.mp z3).1; omega)
      | (have := (List.getElem?_eq_some_iff.mp z4).1; omega)
  · have h1 : (w.m ++ [p])[n]? = some a := h1
    have h2 : (w.S ++ [b])[n]? = some c := h2
    have hl := s.len
    rcases get_snoc h1 with z1 | ⟨z1, e1⟩
    · rcases get_snoc h2 with z2 | ⟨z2, e2⟩
      · by_cases hc : c = .dead
        · subst hc; trivial
        · refine (s.obj n a c z1 z2).ext x s ?_
          show upd w.H p o a = w.H a
          rw [upd_ne (old z1 z2 hc)]
      · have := (List.getElem?_eq_some_iff.mp z1).1
        omega
    · rcases get_snoc h2 with z2 | ⟨z2, e2⟩
      · have := (List.getElem?_eq_some_iff.mp z2).1
        omega
      · subst e1 e2; exact hb
  · obtain ⟨xs, e, mo⟩ := s.rk a h
    exact ⟨xs, by show upd w.H p o a = _; rw [upd_ne (ne_of_none e hp)]; exact e, mo⟩
  · rcases Wd.kept_push s.len q with z | z
    · exact s.rd a h z
    · subst z
      exact s.tracked (.inl h) hp
theorem get_set {α : Type} {l : List α} {x y : α} {n k : Nat} (h : (l.set n x)[k]? = some y) : (k = n ∧ y = x) ∨ (k ≠ n ∧ l[k]? = some y) := by
  by_cases e : k = n
  · subst e
    by_cases hk : k < l.length
    · rw [List.getElem?_set_self hk] at h; exact .inl ⟨rfl, (Option.some.inj h).symm⟩
    · rw [List.getElem?_eq_none (by simpa using hk)] at h; cases h
  · rw [List.getElem?_set_ne (Ne.symm e)] at h; exact .inr ⟨e, h⟩
theorem Wd.kept_set {n : Nat} {a c : Addr} {b : Ob} {H' : Hp} {r' : List Addr} (hm : w.m[n]? = some a) (hl : w.kept a) (h : (⟨w.m, w.S.set n b, H', r'⟩ : Wd).kept c) : w.kept c := by
  obtain ⟨k, o, h1, h2, h3⟩ := h
  have h1 : w.m[k]? = some c := h1
  rcases get_set h2 with ⟨e, _⟩ | ⟨_, z⟩
  · subst e; rw [hm] at h1; cases h1; exact hl
  · exact ⟨k, o, h1, z, h3⟩
theorem Ext.put (s : SR K w) {n : Nat} {a : Addr} {o : HO} {b b0 : Ob} (hm : w.m[n]? = some a) (hS : w.S[n]? = some b0) (hd : b0 ≠ Ob.dead) : Ext w (w.put n a o b) := by
  have hl : w.kept a := ⟨n, b0, hm, hS, hd⟩
  refine ⟨⟨[], (List.append_nil _).symm⟩, fun c u h nl => ?_, fun c h => .inl (h.elim .inl fun q => .inr (Wd.kept_set hm hl q))⟩
  show upd w.H a o c = some u
  rw [upd_ne fun e => nl (by subst e; exact .inr hl)]; exact h
theorem SR.put (s : SR K w) {n : Nat} {a : Addr} {o : HO} {b b0 : Ob} (hm : w.m[n]? = some a) (hS : w.S[n]? = some b0) (hd : b0 ≠ Ob.dead) (hb : OR K (w.put n a o b) b a) : SR K (w.put n a o b) := by
  have x := Ext.put s (o := o) (b := b) hm hS hd
  refine ⟨by show w.m.length = (w.S.set n b).length; simp [s.len], fun i j c d d' h1 h2 h3 h4 e e' => ?_, fun k c d h1 h2 => ?_, fun c h => ?_, fun c h q => s.rd c h (Wd.kept_set hm ⟨n, b0, hm, hS, hd⟩ q)⟩
  · have h1 : w.m[i]? = some c := h1
    have h2 : w.m[j]? = some c := h2
    have old : ∀ {k : Nat} {d : Ob}, (w.S.set n b)[k]? = some d → d ≠ Ob.dead → ∃ d0, w.S[k]? = some d0 ∧ d0 ≠ Ob.dead := fun {k d} q nd => by
      rcases get_set q with ⟨z, _⟩ | ⟨_, z⟩
      · subst z; exact ⟨b0, hS, hd⟩
      · exact ⟨d, z, nd⟩
    obtain ⟨p1, q1, r1⟩ := old h3 e
    obtain ⟨p2, q2, r2⟩ := old h4 e'
    exact s.inj i j c p1 p2 h1 h2 q1 q2 r1 r2
  · have h1 : w.m[k]? = some c := h1
    rcases get_set h2 with ⟨z, y⟩ | ⟨z, y⟩
    · subst z y
      have e := hm.symm.trans h1
      cases e
      exact hb
    · by_cases hc : d = .dead
      · subst hc; trivial
      · refine (s.obj k c d h1 y).ext x s ?_
        show upd w.H a o c = w.H c
        rw [upd_ne fun e => z ?_]
        subst e
        exact s.inj k n c d b0 h1 hm y hS hc hd
  · obtain ⟨xs, e, mo⟩ := s.rk c h
    refine ⟨xs, ?_, mo⟩
    show upd w.H a o c = _
    rw [upd_ne fun z => s.rd c h (by subst z; exact ⟨n, b0, hm, hS, hd⟩)]; exact e
theorem Wd.kept_ice {n : Nat} {c : Addr} (h : (w.ice n).kept c) : w.kept c := by
  obtain ⟨k, o, h1, h2, h3⟩ := h
  rcases get_set (show (w.S.set n .dead)[k]? = some o from h2) with ⟨_, e⟩ | ⟨_, z⟩
  · exact absurd e h3
  · exact ⟨k, o, h1, z, h3⟩
theorem Ext.ice (w : Wd) (n : Nat) : Ext w (w.ice n) := by
  exact ⟨⟨[], (List.append_nil _).symm⟩, fun _ _ h _ => h, fun c h => .inl (h.elim .inl fun q => .inr (Wd.kept_ice q))⟩
theorem SR.ice (s : SR K w) (n : Nat) : SR K (w.ice n) := by
  have x := Ext.ice w n
  have old : ∀ {k : Nat} {d : Ob}, (w.S.set n .dead)[k]? = some d → d ≠ Ob.dead → w.S[k]? = some d := fun {k d} q nd => by
    rcases get_set q with ⟨_, z⟩ | ⟨_, z⟩
    · exact absurd z nd
    · exact z
  refine ⟨by show w.m.length = (w.S.set n .dead).length; simp [s.len], fun i j c d d' h1 h2 h3 h4 e e' => s.inj i j c d d' h1 h2 (old h3 e) (old h4 e') e e', fun k c d h1 h2 => ?_, s.rk, fun c h q => s.rd c h (Wd.kept_ice q)⟩
  by_cases hc : d = .dead
  · subst hc; trivial
  · exact (s.obj k c d h1 (old h2 hc)).ext x s rfl
theorem live_ice (s : SR K w) {n : Nat} {a : Addr} {b : Ob} (hm : w.m[n]? = some a) (hS : w.S[n]? = some b) (hd : b ≠ Ob.dead) : ¬ (w.ice n).live a := fun h => by
  rcases h with h | h
  · exact s.rd a h ⟨n, b, hm, hS, hd⟩
  obtain ⟨k, o, h1, h2, h3⟩ := h
  have h1 : w.m[k]? = some a := h1
  rcases get_set (show (w.S.set n .dead)[k]? = some o from h2) with ⟨_, e⟩ | ⟨z, y⟩
  · exact h3 e
  · exact z (s.inj k n a o b h1 hm y hS h3 hd)
def Wd.hold (w : Wd) (D : Addr) (o : HO) : Wd := ⟨w.m, w.S, upd w.H D o, D :: w.r⟩
def Wd.grow (w : Wd) (D : Addr) (xs : List V) : Wd := ⟨w.m, w.S, upd w.H D (.lst xs), w.r⟩
theorem Ext.hold (s : SR K w) {D : Addr} {o : HO} (hp : w.H D = none) : Ext w (w.hold D o) := by
  refine ⟨⟨[], (List.append_nil _).symm⟩, fun a u h _ => ?_, fun a h => ?_⟩
  · show upd w.H D _ a = some u
    rw [upd_ne (ne_of_none h hp)]; exact h
  · rcases h with h | h
    · rcases List.mem_cons.mp h with z | z
      · subst z; exact .inr hp
      · exact .inl (.inl z)
    · exact .inl (.inr h)
theorem SR.hold (s : SR K w) {D : Addr} {o : HO} (hp : w.H D = none) (mo : MutO o) : SR K (w.hold D o) := by
  have x := Ext.hold s (o := o) hp
  have nd : ∀ {a : Addr}, w.live a → a ≠ D := fun {a} h e => by subst e; exact s.tracked h hp
  refine ⟨s.len, s.inj, fun n a b h1 h2 => ?_, fun a h => ?_, fun a h q => ?_⟩
  · by_cases hb : b = .dead
    · subst hb; trivial
    · refine (s.obj n a b h1 h2).ext x s ?_
      show upd w.H D _ a = w.H a
      rw [upd_ne (nd (.inr ⟨n, b, h1, h2, hb⟩))]
  · rcases List.mem_cons.mp h with z | z
    · subst z; exact ⟨o, upd_same, .inl mo⟩
    · obtain ⟨ys, e, mo'⟩ := s.rk a z
      exact ⟨ys, by show upd w.H D _ a = _; rw [upd_ne (ne_of_none e hp)]; exact e, mo'⟩
  · rcases List.mem_cons.mp h with z | z
    · subst z; exact s.tracked (.inr q) hp
    · exact s.rd a z q
theorem Ext.grow {D : Addr} {xs : List V} (hD : D ∈ w.r) : Ext w (w.grow D xs) :=
  ⟨⟨[], (List.append_nil _).symm⟩, fun a u h nl => by
    show upd w.H D _ a = some u
    rw [upd_ne fun e => nl (by subst e; exact .inl hD)]; exact h, fun _ h => .inl h⟩
theorem SR.grow (s : SR K w) {D : Addr} {xs : List V} (hD : D ∈ w.r) : SR K (w.grow D xs) := by
  have x := Ext.grow (xs := xs) hD
  refine ⟨s.len, s.inj, fun n a b h1 h2 => ?_, fun a h => ?_, s.rd⟩
  · by_cases hb : b = .dead
    · subst hb; trivial
    · refine (s.obj n a b h1 h2).ext x s ?_
      show upd w.H D _ a = w.H a
      rw [upd_ne fun e => s.rd D hD (by subst e; exact ⟨n, b, h1, h2, hb⟩)]
  · by_cases e : a = D
    · subst e; exact ⟨_, upd_same, .inl (.inl ⟨xs, rfl⟩)⟩
    · obtain ⟨ys, q, mo⟩ := s.rk a h
      exact ⟨ys, by show upd w.H D _ a = _; rw [upd_ne e]; exact q, mo⟩
theorem let_go_r {D : Addr} {l : List Addr} (h : D ∉ l) : (D :: l).filter (fun a => decide (a ≠ D)) = l := by
  rw [List.filter_cons_of_neg (by simp)]
  exact List.filter_eq_self.mpr fun a ha => decide_eq_true fun e => h (by subst e; exact ha)
structure Stp (w w' : Wd) : Prop where
  x : Ext w w'
  r : w'.r = w.r
  k : ∀ a ∈ w.r, w'.H a = w.H a
theorem Stp.refl (w : Wd) : Stp w w := ⟨Ext.refl w, rfl, fun _ _ => rfl⟩
theorem Stp.trans {w w1 w2 : Wd} (a : Stp w w1) (b : Stp w1 w2) : Stp w w2 := ⟨a.x.trans b.x, b.r.trans a.r, fun c h => (b.k c (by rw [a.r]; exact h)).trans (a.k c h)⟩
theorem Stp.new (s : SR K w) {p : Addr} {o : HO} (hp : w.H p = none) : Stp w (w.new p o) := ⟨Ext.new s hp, rfl, fun a h => by
  show upd w.H p o a = w.H a
  rw [upd_ne fun e => s.tracked (.inl h) (by rw [e]; exact hp)]⟩
theorem Stp.push (s : SR K w) {p : Addr} {o : HO} {b : Ob} (hp : w.H p = none) : Stp w (w.push p o b) := ⟨Ext.push s hp, rfl, fun a h => by
  show upd w.H p o a = w.H a
  rw [upd_ne fun e => s.tracked (.inl h) (by rw [e]; exact hp)]⟩
theorem Stp.put (s : SR K w) {n : Nat} {a : Addr} {o : HO} {b b0 : Ob} (hm : w.m[n]? = some a) (hS : w.S[n]? = some b0) (hd : b0 ≠ .dead) : Stp w (w.put n a o b) := ⟨Ext.put s hm hS hd, rfl, fun c h => by
  show upd w.H a o c = w.H c
  rw [upd_ne fun e => s.rd c h (by rw [e]; exact ⟨n, b0, hm, hS, hd⟩)]⟩
theorem Stp.ice (w : Wd) (n : Nat) : Stp w (w.ice n) := ⟨Ext.ice w n, rfl, fun _ _ => rfl⟩
def Wd.cut (w : Wd) (D : Addr) : Wd := ⟨w.m, w.S, fun b => if b = D then none else w.H b, w.r.filter fun a => decide (a ≠ D)⟩
theorem cut_at {D a : Addr} (h : a ≠ D) : (w.cut D).H a = w.H a := if_neg h
theorem cut_D {D : Addr} : (w.cut D).H D = none := if_pos rfl
theorem cut_back {D : Addr} {o : HO} (h : w.H D = some o) : upd (w.cut D).H D o = w.H := by
  funext b
  by_cases e : b = D
  · subst e; rw [upd_same, h]
  · rw [upd_ne e, cut_at e]
theorem live_cut {D a : Addr} (h : (w.cut D).live a) : w.live a := h.elim (fun q => .inl (List.mem_filter.mp q).1) .inr
mutual
theorem VR.cut (s : SR K w) {D : Addr} (hD : w.live D) : ∀ {u : U} {v : V}, VR K w u v → VR K (w.cut D) u v
  | _, _, .non => .non
  | _, _, .bl b => .bl b
  | _, _, .int i => .int i
  | _, _, .str y => .str y
  | _, _, .tup h r => .tup (h.imp (fun q => (cut_at (fun e => s.notup (by rw [← e]; exact q) hD)).trans q) id) (VRs.cut s hD r)
  | _, _, .lst h n r => .lst ((cut_at (fun e => n (by rw [e]; exact hD))).trans h) (fun q => n (live_cut q)) (VRs.cut s hD r)
  | _, _, .frz h r => .frz (h.imp (fun ⟨o, q⟩ => ⟨o, (cut_at (fun e => s.nofrz (by rw [← e]; exact q) hD)).trans q⟩) id) (VRs.cut s hD r)
  | _, _, .dic h n l r => .dic ((cut_at (fun e => n (by rw [e]; exact hD))).trans h) (fun q => n (live_cut q)) l (VRs.cut s hD r)
  | _, _, .loc h => .loc h
  | _, _, .ty n => .ty n
  | _, _, .exc h h2 c r => .exc ((cut_at (fun e => s.noexv (by rw [← e]; exact h) hD)).trans h) ((cut_at (fun e => s.noxd (by rw [← e]; exact h2) hD)).trans h2) c (VR.cut s hD r)
  | _, _, .cl h => .cl h
theorem VRs.cut (s : SR K w) {D : Addr} (hD : w.live D) : ∀ {us : List U} {vs : List V}, VRs K w us vs → VRs K (w.cut D) us vs
  | _, _, .nil => .nil
  | _, _, .cons h r => .cons (VR.cut s hD h) (VRs.cut s hD r)
end
theorem SR.cut (s : SR K w) {D : Addr} (hD : D ∈ w.r) : SR K (w.cut D) := by
  have ne : ∀ {n : Nat} {a : Addr} {o : Ob}, w.m[n]? = some a → w.S[n]? = some o → o ≠ Ob.dead → a ≠ D := fun {n a o} h1 h2 h3 e => s.rd D hD (by rw [← e]; exact ⟨n, o, h1, h2, h3⟩)
  refine ⟨s.len, s.inj, fun n a o h1 h2 => ?_, fun a h => ?_, fun a h q => s.rd a (List.mem_filter.mp h).1 q⟩
  · have q := s.obj n a o h1 h2
    cases o with
    | lst us => obtain ⟨xs, e, r⟩ := q; exact ⟨xs, (cut_at (ne h1 h2 (by intro z; cases z))).trans e, r.cut s (.inl hD)⟩
    | dic ks us => obtain ⟨xs, e, l, r⟩ := q; exact ⟨xs, (cut_at (ne h1 h2 (by intro z; cases z))).trans e, l, r.cut s (.inl hD)⟩
    | ins c fs => obtain ⟨C, dx, xs, m, e, r⟩ := q; exact ⟨C, dx, xs, m, (cut_at (ne h1 h2 (by intro z; cases z))).trans e, r.cut s (.inl hD)⟩
    | kd ks us => obtain ⟨L, e, r1, r2, r3⟩ := q; exact ⟨L, (cut_at (ne h1 h2 (by intro z; cases z))).trans e, r1.cut s (.inl hD), r2, r3.cut s (.inl hD)⟩
    | dead => trivial
  · obtain ⟨h1, h2⟩ := List.mem_filter.mp h
    obtain ⟨xs, e, mo'⟩ := s.rk a h1
    exact ⟨xs, (cut_at (of_decide_eq_true h2)).trans e, mo'⟩
theorem Ext.cut {w1 : Wd} {D : Addr} (x : Ext w1 w) (h0 : w1.H D = none) : Ext w1 (w.cut D) :=
  ⟨x.m, fun a o h n => (cut_at (ne_of_none h h0)).trans (x.keep a o h n), fun a h => x.live a (live_cut h)⟩
structure ER (K : KM) (w : Wd) (d : En) (σ : St) : Prop where
  len : d.length = σ.length
  get : ∀ (i : Nat) (u : U), d[i]? = some (some u) → ∃ v, σ[i]? = some (some v) ∧ VR K w u v
theorem ER.ext {d : En} {σ : St} (x : Ext w w') (s : SR K w) (e : ER K w d σ) : ER K w' d σ :=
  ⟨e.len, fun i u h => let ⟨v, h1, h2⟩ := e.get i u h; ⟨v, h1, h2.ext x s⟩⟩
theorem ER.set {d : En} {σ : St} {u : U} {v : V} (e : ER K w d σ) (i : Nat) (r : VR K w u v) : ER K w (d.set i (some u)) (σ.set i (some v)) := by
  refine ⟨by simp [e.len], fun j y h => ?_⟩
  rcases get_set h with ⟨z, q⟩ | ⟨z, q⟩
  · subst z
    cases q
    have hj : j < σ.length := by
      have := (List.getElem?_eq_some_iff.mp h).1
      simpa [e.len] using this
    exact ⟨v, List.getElem?_set_self hj, r⟩
  · obtain ⟨x, h1, h2⟩ := e.get j y q
    exact ⟨x, by rw [List.getElem?_set_ne (Ne.symm z)]; exact h1, h2⟩
theorem ER.forget {d : En} {σ : St} (e : ER K w d σ) (i : Nat) (o : Option V) : ER K w (d.set i none) (σ.set i o) := by
  refine ⟨by simp [e.len], fun j y h => ?_⟩
  rcases get_set h with ⟨z, q⟩ | ⟨z, q⟩
  · cases q
  · obtain ⟨x, h1, h2⟩ := e.get j y q
    exact ⟨x, by rw [List.getElem?_set_ne (Ne.symm z)]; exact h1, h2⟩
def enStart (n : Nat) (us : List U) : En := us.map some ++ List.replicate (n - us.length) none
theorem ER.start {N : List Str} {us : List U} {vs : List V} (r : VRs K w us vs) : ER K w (enStart N.length us) (start N vs) := by
  refine ⟨by simp [enStart, L2.start, r.length], fun i u h => ?_⟩
  unfold enStart at h
  by_cases hi : i < us.length
  · rw [List.getElem?_append_left (by simpa using hi), List.getElem?_map] at h
    cases q : us[i]? with
    | none => rw [q] at h; cases h
    | some y =>
      rw [q] at h
      cases h
      obtain ⟨v, h1, h2⟩ := r.get q
      refine ⟨v, ?_, h2⟩
      unfold L2.start
      rw [List.getElem?_append_left (by simpa [← r.length] using hi), List.getElem?_map, h1]
      rfl
  · rw [List.getElem?_append_right (by simpa using hi)] at h
    have := List.mem_of_getElem? h
    rw [List.mem_replicate] at this
    cases this.2
end
end DL
namespace DL
open PySem PySem.Spec L2
abbrev FE := En → Sto → R U
abbrev FT := En → Sto → R Bool
abbrev FA := En → Sto → R (List U)
inductive Fl where
  | nx (d : En) | rt (u : U) | bk (d : En) | ct (d : En) | ex (x : Exc) (d : En)
abbrev FS := En → Sto → R Fl
def XRel (K : KM) (w : Wd) (x : Exc) (cls : Value) (d : Option Addr) : Prop :=
  K.mg x.cls = some cls ∧ ∃ (dd : Addr) (v : V), d = some dd ∧ w.H dd = some (.xd [(x.fld, v)]) ∧ VR K w x.arg v
def XPost (X : Cx) (Wx : WX) (σ : L2.St) (w : Wd) (x : Exc) (S' : Sto) : Prop :=
  ∀ (w' : Wd) (cls : Value) (d : Option Addr), w'.S = S' → Stp w w' → SR (KMof X) w' → XRel (KMof X) w' x cls d → Wx cls d σ w'.H
def OkE (X : Cx) (w : Wd) (Q : VK) (u : U) (S' : Sto) : Prop :=
  ∀ (w' : Wd) (v : V), w'.S = S' → Stp w w' → SR (KMof X) w' → VR (KMof X) w' u v → Q v w'.H
def OkT (X : Cx) (w : Wd) (Q : Bool → Hp → Prop) (b : Bool) (S' : Sto) : Prop :=
  ∀ (w' : Wd), w'.S = S' → Stp w w' → SR (KMof X) w' → Q b w'.H
def OkA (X : Cx) (w : Wd) (Q : List V → Hp → Prop) (us : List U) (S' : Sto) : Prop :=
  ∀ (w' : Wd) (vs : List V), w'.S = S' → Stp w w' → SR (KMof X) w' → VRs (KMof X) w' us vs → Q vs w'.H
def OkL (X : Cx) (w : Wd) (Q : VK) (us : List U) (S' : Sto) : Prop :=
  ∀ (w' : Wd) (p : Addr) (xs : List V), w'.S = S' → Stp w w' → SR (KMof X) w' → VRs (KMof X) w' us xs → w'.H p = none → Q (.ref p) (upd w'.H p (.lst xs))
def OkS (X : Cx) (Wx : WX) (w : Wd) (D : Ends) (fl : Fl) (S' : Sto) : Prop :=
  ∀ (w' : Wd), w'.S = S' → Stp w w' → SR (KMof X) w' → match fl with
    | .nx d => ∀ σ', ER (KMof X) w' d σ' → D.nx σ' w'.H
    | .rt u => ∀ v, VR (KMof X) w' u v → D.rt v w'.H
    | .bk d => ∀ σ', ER (KMof X) w' d σ' → D.bk σ' w'.H
    | .ct d => ∀ σ', ER (KMof X) w' d σ' → D.ct σ' w'.H
    | .ex x d => ∀ σ', ER (KMof X) w' d σ' → ∀ (cls : Value) (dd : Option Addr), XRel (KMof X) w' x cls dd → Wx cls dd σ' w'.H
section
variable {X : Cx} {Wx : WX} {w w1 : Wd}
theorem XPost.up {σ : L2.St} {x : Exc} {S' : Sto} (h : XPost X Wx σ w x S') (st : Stp w w1) : XPost X Wx σ w1 x S' := fun w' cls d e s2 sr xr => h w' cls d e (st.trans s2) sr xr
theorem OkE.up {Q : VK} {u : U} {S' : Sto} (h : OkE X w Q u S') (st : Stp w w1) : OkE X w1 Q u S' := fun w' v e s2 sr r => h w' v e (st.trans s2) sr r
theorem OkT.up {Q : Bool → Hp → Prop} {u : Bool} {S' : Sto} (h : OkT X w Q u S') (st : Stp w w1) : OkT X w1 Q u S' := fun w' e s2 sr => h w' e (st.trans s2) sr
theorem OkA.up {Q : List V → Hp → Prop} {u : List U} {S' : Sto} (h : OkA X w Q u S') (st : Stp w w1) : OkA X w1 Q u S' := fun w' v e s2 sr r => h w' v e (st.trans s2) sr r
theorem OkL.up {Q : VK} {u : List U} {S' : Sto} (h : OkL X w Q u S') (st : Stp w w1) : OkL X w1 Q u S' := fun w' p xs e s2 sr r hp => h w' p xs e (st.trans s2) sr r hp
theorem OkS.up {D : Ends} {fl : Fl} {S' : Sto} (h : OkS X Wx w D fl S') (st : Stp w w1) : OkS X Wx w1 D fl S' := fun w' e s2 sr => h w' e (st.trans s2) sr
theorem OkE.here {Q : VK} {u : U} (h : OkE X w Q u w.S) (s : SR (KMof X) w) {v : V} (r : VR (KMof X) w u v) : Q v w.H := h w v rfl (Stp.refl w) s r
end
def tE (X : Cx) (Wx : WX) (f : FE) : TE := fun σ H Q => ∃ (w : Wd) (d : En), w.H = H ∧ SR (KMof X) w ∧ ER (KMof X) w d σ ∧ Pst (f d w.S) (OkE X w Q) (XPost X Wx σ w)
def tT (X : Cx) (Wx : WX) (f : FT) : TT := fun σ H Q => ∃ (w : Wd) (d : En), w.H = H ∧ SR (KMof X) w ∧ ER (KMof X) w d σ ∧ Pst (f d w.S) (OkT X w Q) (XPost X Wx σ w)
def tA (X : Cx) (Wx : WX) (f : FA) : TA := fun σ H Q => ∃ (w : Wd) (d : En), w.H = H ∧ SR (KMof X) w ∧ ER (KMof X) w d σ ∧ Pst (f d w.S) (OkA X w Q) (XPost X Wx σ w)
def tL (X : Cx) (Wx : WX) (f : FA) : TE := fun σ H Q => ∃ (w : Wd) (d : En), w.H = H ∧ SR (KMof X) w ∧ ER (KMof X) w d σ ∧ Pst (f d w.S) (OkL X w Q) (XPost X Wx σ w)
def tS (X : Cx) (Wx : WX) (f : FS) : TS := fun D σ H => ∃ (w : Wd) (d : En), w.H = H ∧ SR (KMof X) w ∧ ER (KMof X) w d σ ∧ Pst (f d w.S) (OkS X Wx w D) (fun _ _ => False)
def SimE (X : Cx) (Wx : WX) (e : Expr) (f : FE) : Prop := PE X e (tE X Wx f)
def SimT (X : Cx) (Wx : WX) (e : Expr) (f : FT) : Prop := PT X e (tT X Wx f)
def SimW (X : Cx) (Wx : WX) (e : Expr) (f : FT) : Prop := PW X e (tT X Wx f)
def SimA (X : Cx) (Wx : WX) (es : List Expr) (f : FA) : Prop := PA X es (tA X Wx f)
def SimL (X : Cx) (Wx : WX) (e : Expr) (f : FA) : Prop := PE X e (tL X Wx f)
def SimS (X : Cx) (Wx : WX) (st : Stmt) (f : FS) : Prop := PS X st (tS X Wx f)
def SimB (X : Cx) (Wx : WX) (sts : List Stmt) (f : FS) : Prop := PSs X sts (tS X Wx f)
section
variable {X : Cx} {Wx : WX} {e : Expr} {es : List Expr} {st : Stmt} {sts : List Stmt}
theorem SimE.out {f : FE} (h : SimE X Wx e f) : ∃ t, PE X e t ∧ ∀ (w : Wd) (d : En) (σ : L2.St) (Q : VK), SR (KMof X) w → ER (KMof X) w d σ → Pst (f d w.S) (OkE X w Q) (XPost X Wx σ w) → t σ w.H Q := ⟨_, h, fun w d _ _ s e p => ⟨w, d, rfl, s, e, p⟩⟩
theorem SimE.mk {f : FE} {t : TE} (p : PE X e t) (h : ∀ (w : Wd) (d : En) (σ : L2.St) (Q : VK), SR (KMof X) w → ER (KMof X) w d σ → Pst (f d w.S) (OkE X w Q) (XPost X Wx σ w) → t σ w.H Q) : SimE X Wx e f :=
  ⟨fun pins s σ H Q I ⟨w, d, e, sr, er, q⟩ => p.run pins s σ H Q I (by subst e; exact h w d σ Q sr er q)⟩
theorem SimL.out {f : FA} (h : SimL X Wx e f) : ∃ t, PE X e t ∧ ∀ (w : Wd) (d : En) (σ : L2.St) (Q : VK), SR (KMof X) w → ER (KMof X) w d σ → Pst (f d w.S) (OkL X w Q) (XPost X Wx σ w) → t σ w.H Q := ⟨_, h, fun w d _ _ s e p => ⟨w, d, rfl, s, e, p⟩⟩
theorem SimL.mk {f : FA} {t : TE} (p : PE X e t) (h : ∀ (w : Wd) (d : En) (σ : L2.St) (Q : VK), SR (KMof X) w → ER (KMof X) w d σ → Pst (f d w.S) (OkL X w Q) (XPost X Wx σ w) → t σ w.H Q) : SimL X Wx e f :=
  ⟨fun pins s σ H Q I ⟨w, d, e, sr, er, q⟩ => p.run pins s σ H Q I (by subst e; exact h w d σ Q sr er q)⟩
theorem SimT.out {f : FT} (h : SimT X Wx e f) : ∃ t, PT X e t ∧ ∀ (w : Wd) (d : En) (σ : L2.St) (Q : Bool → Hp → Prop), SR (KMof X) w → ER (KMof X) w d σ → Pst (f d w.S) (OkT X w Q) (XPost X Wx σ w) → t σ w.H Q := ⟨_, h, fun w d _ _ s e p => ⟨w, d, rfl, s, e, p⟩⟩
theorem SimT.mk {f : FT} {t : TT} (p : PT X e t) (h : ∀ (w : Wd) (d : En) (σ : L2.St) (Q : Bool → Hp → Prop), SR (KMof X) w → ER (KMof X) w d σ → Pst (f d w.S) (OkT X w Q) (XPost X Wx σ w) → t σ w.H Q) : SimT X Wx e f :=
  ⟨fun pins s σ H Q I ⟨w, d, e, sr, er, q⟩ => p.run pins s σ H Q I (by subst e; exact h w d σ Q sr er q)⟩
theorem SimW.out {f : FT} (h : SimW X Wx e f) : ∃ t, PW X e t ∧ ∀ (w : Wd) (d : En) (σ : L2.St) (Q : Bool → Hp → Prop), SR (KMof X) w → ER (KMof X) w d σ → Pst (f d w.S) (OkT X w Q) (XPost X Wx σ w) → t σ w.H Q := ⟨_, h, fun w d _ _ s e p => ⟨w, d, rfl, s, e, p⟩⟩
theorem SimW.mk {f : FT} {t : TT} (p : PW X e t) (h : ∀ (w : Wd) (d : En) (σ : L2.St) (Q : Bool → Hp → Prop), SR (KMof X) w → ER (KMof X) w d σ → Pst (f d w.S) (OkT X w Q) (XPost X Wx σ w) → t σ w.H Q) : SimW X Wx e f :=
  ⟨fun whole pins s σ H Q I ⟨w, d, e, sr, er, q⟩ => p.run whole pins s σ H Q I (by subst e; exact h w d σ Q sr er q)⟩
theorem SimA.out {f : FA} (h : SimA X Wx es f) : ∃ t, PA X es t ∧ ∀ (w : Wd) (d : En) (σ : L2.St) (Q : List V → Hp → Prop), SR (KMof X) w → ER (KMof X) w d σ → Pst (f d w.S) (OkA X w Q) (XPost X Wx σ w) → t σ w.H Q := ⟨_, h, fun w d _ _ s e p => ⟨w, d, rfl, s, e, p⟩⟩
theorem SimA.mk {f : FA} {t : TA} (p : PA X es t) (h : ∀ (w : Wd) (d : En) (σ : L2.St) (Q : List V → Hp → Prop), SR (KMof X) w → ER (KMof X) w d σ → Pst (f d w.S) (OkA X w Q) (XPost X Wx σ w) → t σ w.H Q) : SimA X Wx es f :=
  ⟨fun pos pins s σ H Q I ⟨w, d, e, sr, er, q⟩ => p.run pos pins s σ H Q I (by subst e; exact h w d σ Q sr er q)⟩
theorem SimS.out {f : FS} (h : SimS X Wx st f) : ∃ t, PS X st t ∧ ∀ (w : Wd) (d : En) (σ : L2.St) (D : Ends), SR (KMof X) w → ER (KMof X) w d σ → Pst (f d w.S) (OkS X Wx w D) (fun _ _ => False) → t D σ w.H := ⟨_, h, fun w d _ _ s e p => ⟨w, d, rfl, s, e, p⟩⟩
theorem SimS.mk {f : FS} {t : TS} (p : PS X st t) (h : ∀ (w : Wd) (d : En) (σ : L2.St) (D : Ends), SR (KMof X) w → ER (KMof X) w d σ → Pst (f d w.S) (OkS X Wx w D) (fun _ _ => False) → t D σ w.H) : SimS X Wx st f :=
  ⟨fun pins s σ H D I ⟨w, d, e, sr, er, q⟩ => p.run pins s σ H D I (by subst e; exact h w d σ D sr er q)⟩
theorem SimB.out {f : FS} (h : SimB X Wx sts f) : ∃ t, PSs X sts t ∧ ∀ (w : Wd) (d : En) (σ : L2.St) (D : Ends), SR (KMof X) w → ER (KMof X) w d σ → Pst (f d w.S) (OkS X Wx w D) (fun _ _ => False) → t D σ w.H := ⟨_, h, fun w d _ _ s e p => ⟨w, d, rfl, s, e, p⟩⟩
theorem SimB.mk {f : FS} {t : TS} (p : PSs X sts t) (h : ∀ (w : Wd) (d : En) (σ : L2.St) (D : Ends), SR (KMof X) w → ER (KMof X) w d σ → Pst (f d w.S) (OkS X Wx w D) (fun _ _ => False) → t D σ w.H) : SimB X Wx sts f :=
  ⟨fun pins s σ H D I ⟨w, d, e, sr, er, q⟩ => p.run pins s σ H D I (by subst e; exact h w d σ D sr er q)⟩
end
def fVar (i : Nat) : FE := fun d S => match d[i]? with
  | some (some u) => .ok u S
  | _ => .bad
def fC (u : U) : FE := fun _ S => .ok u S
section
variable {X : Cx} {Wx : WX}
theorem se_var (i : Nat) {x : Str} {pos : Pos} (hN : X.N[i]? = some x := by rfl) (hv : Vis X.env.scope x := by first | exact Or.inl rfl | exact Or.inr (Or.inl rfl) | exact Or.inr (Or.inr rfl))
    (hd : (x == ("__debug__" : Str)) = false := by decide) (hcd : (x == ("__classdict__" : Str)) = false := by decide) : SimE X Wx (.Name x pos) (fVar i) := by
  refine SimE.mk (pe_var hN hv hd hcd) (fun w d σ Q s e h => ?_)
  unfold fVar at h
  split at h
  · rename_i u hu
    obtain ⟨v, h1, h2⟩ := e.get i u hu
    exact ⟨v, h1, OkE.here h s h2⟩
  · exact h.elim
theorem se_int {i : Int} {j pos} : SimE X Wx (.Constant (.int i) j pos) (fC (.int i)) := SimE.mk (pe_int) (fun w d σ Q s e h => OkE.here h s (.int i))
theorem se_bl {b : Bool} {j pos} : SimE X Wx (.Constant (.bool b) j pos) (fC (.bl b)) := SimE.mk (pe_bl) (fun w d σ Q s e h => OkE.here h s (.bl b))
theorem se_non {j pos} : SimE X Wx (.Constant .none j pos) (fC .non) := SimE.mk (pe_non) (fun w d σ Q s e h => OkE.here h s .non)
theorem se_str {x : Str} {j pos} : SimE X Wx (.Constant (.str x) j pos) (fC (.str x)) := SimE.mk (pe_str) (fun w d σ Q s e h => OkE.here h s (.str x))
theorem se_bltn {x : Str} {v : V} {u : U} {z : Value} {pos : Pos} (hg : Gl X x) (hm : X.mg x = none) (hv : bootBuiltins x = some z) (r : RelV v z) (hr : ∀ w, VR (KMof X) w u v) (hn : x ≠ "__name__" := by decide) (hd : (x == ("__debug__" : Str)) = false := by decide) : SimE X Wx (.Name x pos) (fC u) :=
  SimE.mk (pe_bltn hg hm hv r hn hd) (fun w d σ Q s e h => OkE.here h s (hr w))
def OpSim (X : Cx) (F : Value → Value → Sem Value) (g : U → U → Sto → R U) : Prop := ∃ r, OpR X F r ∧
  ∀ (w : Wd) (x y : U) (v v' : V) (Q : VK), SR (KMof X) w → VR (KMof X) w x v → VR (KMof X) w y v' → Pst (g x y w.S) (OkE X w Q) (fun _ _ => False) → r v v' w.H Q
def f2 (g : U → U → Sto → R U) (fa fb : FE) : FE := fun d S => (fa d S).bind fun x S1 => (fb d S1).bind fun y S2 => g x y S2
def noX (r : R U) : Prop := match r with
  | .exc _ _ => False
  | _ => True
theorem pst_noX {r : R U} {P : U → Sto → Prop} {E : Exc → Sto → Prop} (h : Pst r P E) (n : noX r) : Pst r P (fun _ _ => False) := by
  cases r with
  | ok a S => exact h
  | exc x S => exact n
  | bad => exact h
theorem two {a b : Expr} {ta tb : TE} {fa fb : FE}
    (ha : ∀ (w : Wd) (d : En) (σ : L2.St) (Q : VK), SR (KMof X) w → ER (KMof X) w d σ → Pst (fa d w.S) (OkE X w Q) (XPost X Wx σ w) → ta σ w.H Q)
    (hb : ∀ (w : Wd) (d : En) (σ : L2.St) (Q : VK), SR (KMof X) w → ER (KMof X) w d σ → Pst (fb d w.S) (OkE X w Q) (XPost X Wx σ w) → tb σ w.H Q)
    {g : U → U → Sto → R U} {r : R2} (hg : ∀ (w : Wd) (x y : U) (v v' : V) (Q : VK), SR (KMof X) w → VR (KMof X) w x v → VR (KMof X) w y v' → Pst (g x y w.S) (OkE X w Q) (fun _ _ => False) → r v v' w.H Q) (hn : ∀ x y S, noX (g x y S))
    (w : Wd) (d : En) (σ : L2.St) (Q : VK) (s : SR (KMof X) w) (e : ER (KMof X) w d σ) (h : Pst (f2 g fa fb d w.S) (OkE X w Q) (XPost X Wx σ w)) :
    ta σ w.H fun x H1 => tb σ H1 fun y H2 => r x y H2 Q := by
  refine ha w d σ _ s e ((Pst.of_bind h).mono (fun x S1 h1 w1 v1 eS st s1 r1 => ?_) fun _ _ q => q)
  subst eS
  refine hb w1 d σ _ s1 (e.ext st.x s) ((Pst.of_bind h1).mono (fun y S2 h2 w2 v2 eS2 st2 s2 r2 => ?_) fun _ _ q => q.up st)
  subst eS2
  exact hg w2 x y v1 v2 Q s2 (r1.ext st2.x s1) r2 ((pst_noX h2 (hn x y w2.S)).mono (fun _ _ q => q.up (st.trans st2)) fun _ _ q => q)
theorem se_op {a b : Expr} {fa fb : FE} {op : Operator} {g : U → U → Sto → R U} {pos : Pos} (ho : OpSim X (binaryOp op) g) (hn : ∀ x y S, noX (g x y S)) (ha : SimE X Wx a fa) (hb : SimE X Wx b fb) : SimE X Wx (.BinOp a op b pos) (f2 g fa fb) := by
  obtain ⟨r, ho, hg⟩ := ho
  obtain ⟨ta, pa, ha⟩ := ha.out
  obtain ⟨tb, pb, hb⟩ := hb.out
  exact SimE.mk (pe_op ho pa pb) (fun w d σ Q s e h => two (a := a) (b := b) ha hb hg hn w d σ Q s e h)
theorem se_cmp {a b : Expr} {fa fb : FE} {op : CmpOp} {g : U → U → Sto → R U} {pos : Pos} (ho : OpSim X (compareOp op) g) (hn : ∀ x y S, noX (g x y S)) (ha : SimE X Wx a fa) (hb : SimE X Wx b fb) (hm : behindInMarks op b = false) : SimE X Wx (.Compare a [op] [b] pos) (f2 g fa fb) := by
  obtain ⟨r, ho, hg⟩ := ho
  obtain ⟨ta, pa, ha⟩ := ha.out
  obtain ⟨tb, pb, hb⟩ := hb.out
  exact SimE.mk (pe_cmpR ho pa pb hm) (fun w d σ Q s e h => two (a := a) (b := b) ha hb hg hn w d σ Q s e h)
def asB (r : R U) : R Bool := r.bind fun u S => match u with
  | .bl b => .ok b S
  | _ => .bad
theorem asB_post {r : R U} {w : Wd} {Q : Bool → Hp → Prop} {E : Exc → Sto → Prop} (h : Pst (asB r) (OkT X w Q) E) : Pst r (OkE X w fun x H => ∃ k, x = .bl k ∧ Q k H) E := by
  unfold asB at h
  refine (Pst.of_bind h).mono (fun u S h1 w1 v e st s1 rv => ?_) fun _ _ q => q
  cases rv with
  | bl b => exact ⟨b, rfl, h1 w1 e st s1⟩
  | _ => exact h1.elim
theorem st_cmp {a b : Expr} {fa fb : FE} {op : CmpOp} {g : U → U → Sto → R U} {pos : Pos} (ho : OpSim X (compareOp op) g) (hn : ∀ x y S, noX (g x y S)) (ha : SimE X Wx a fa) (hb : SimE X Wx b fb) (hm : behindInMarks op b = false) : SimT X Wx (.Compare a [op] [b] pos) (fun d S => asB (f2 g fa fb d S)) := by
  obtain ⟨r, ho, hg⟩ := ho
  obtain ⟨ta, pa, ha⟩ := ha.out
  obtain ⟨tb, pb, hb⟩ := hb.out
  exact SimT.mk (pt_cmpR ho pa pb hm) (fun w d σ Q s e h => two (a := a) (b := b) ha hb hg hn w d σ _ s e (asB_post h))
def fCh (g g' : U → U → Sto → R U) (fa fb fc : FE) : FE := fun d S => (fa d S).bind fun x S1 => (fb d S1).bind fun y S2 => (g x y S2).bind fun z S3 => match z with
  | .bl true => (fc d S3).bind fun t S4 => g' y t S4
  | .bl false => .ok (.bl false) S3
  | _ => .bad
theorem chain {a b c : Expr} {ta tb tc : TE} {fa fb fc : FE}
    (ha : ∀ (w : Wd) (d : En) (σ : L2.St) (Q : VK), SR (KMof X) w → ER (KMof X) w d σ → Pst (fa d w.S) (OkE X w Q) (XPost X Wx σ w) → ta σ w.H Q)
    (hb : ∀ (w : Wd) (d : En) (σ : L2.St) (Q : VK), SR (KMof X) w → ER (KMof X) w d σ → Pst (fb d w.S) (OkE X w Q) (XPost X Wx σ w) → tb σ w.H Q)
    (hc : ∀ (w : Wd) (d : En) (σ : L2.St) (Q : VK), SR (KMof X) w → ER (KMof X) w d σ → Pst (fc d w.S) (OkE X w Q) (XPost X Wx σ w) → tc σ w.H Q)
    {g g' : U → U → Sto → R U} {r r' : R2} (hg : ∀ (w : Wd) (x y : U) (v v' : V) (Q : VK), SR (KMof X) w → VR (KMof X) w x v → VR (KMof X) w y v' → Pst (g x y w.S) (OkE X w Q) (fun _ _ => False) → r v v' w.H Q) (hn : ∀ x y S, noX (g x y S))
    (hg' : ∀ (w : Wd) (x y : U) (v v' : V) (Q : VK), SR (KMof X) w → VR (KMof X) w x v → VR (KMof X) w y v' → Pst (g' x y w.S) (OkE X w Q) (fun _ _ => False) → r' v v' w.H Q) (hn' : ∀ x y S, noX (g' x y S))
    (w : Wd) (d : En) (σ : L2.St) (Q : VK) (s : SR (KMof X) w) (e : ER (KMof X) w d σ) (h : Pst (fCh g g' fa fb fc d w.S) (OkE X w Q) (XPost X Wx σ w)) : tChain r r' ta tb tc σ w.H Q := by
  refine ha w d σ _ s e ((Pst.of_bind h).mono (fun x S1 h1 w1 v1 eS st s1 r1 => ?_) fun _ _ q => q)
  subst eS
  have e1 := e.ext st.x s
  refine hb w1 d σ _ s1 e1 ((Pst.of_bind h1).mono (fun y S2 h2 w2 v2 eS2 st2 s2 r2 => ?_) fun _ _ q => q.up st)
  subst eS2
  have st02 := st.trans st2
  have e2 := e1.ext st2.x s1
  refine hg w2 x y v1 v2 _ s2 (r1.ext st2.x s1) r2 ((pst_noX (Pst.of_bind h2) (hn x y w2.S)).mono (fun z S3 h3 w3 v3 eS3 st3 s3 r3 => ?_) fun _ _ q => q)
  subst eS3
  have st03 := st02.trans st3
  have e3 := e2.ext st3.x s2
  cases r3 with
  | bl k =>
    refine ⟨k, rfl, ?_⟩
    cases k with
    | false => exact OkE.here (h3.up st03) s3 (.bl false)
    | true =>
      show tc σ w3.H fun w' H4 => r' v2 w' H4 Q
      have h3 : Pst ((fc d w3.S).bind fun t S4 => g' y t S4) (OkE X w Q) (XPost X Wx σ w) := h3
      refine hc w3 d σ _ s3 e3 ((Pst.of_bind h3).mono (fun t S4 h4 w4 v4 eS4 st4 s4 r4 => ?_) fun _ _ q => q.up st03)
      subst eS4
      exact hg' w4 y t v2 v4 Q s4 ((r2.ext st3.x s2).ext st4.x s3) r4 ((pst_noX h4 (hn' y t w4.S)).mono (fun _ _ q => q.up (st03.trans st4)) fun _ _ q => q)
  | _ => exact h3.elim
theorem st_chain {a b c : Expr} {fa fb fc : FE} {op op' : CmpOp} {g g' : U → U → Sto → R U} {pos : Pos} (ho : OpSim X (compareOp op) g) (hn : ∀ x y S, noX (g x y S)) (ho' : OpSim X (compareOp op') g') (hn' : ∀ x y S, noX (g' x y S))
    (ha : SimE X Wx a fa) (hb : SimE X Wx b fb) (hc : SimE X Wx c fc) (hm : lastMarks [op, op'] [b, c] = false := by with_unfolding_all rfl) : SimT X Wx (.Compare a [op, op'] [b, c] pos) (fun d S => asB (fCh g g' fa fb fc d S)) := by
  obtain ⟨r, ho, hg⟩ := ho
  obtain ⟨r', ho', hg'⟩ := ho'
  obtain ⟨ta, pa, ha⟩ := ha.out
  obtain ⟨tb, pb, hb⟩ := hb.out
  obtain ⟨tc, pc, hc⟩ := hc.out
  exact SimT.mk (pt_chain ho ho' pa pb pc hm) (fun w d σ Q s e h => chain (a := a) (b := b) (c := c) ha hb hc hg hn hg' hn' w d σ _ s e (asB_post h))
def f1 (g : U → Sto → R U) (fa : FE) : FE := fun d S => (fa d S).bind g
def UnSim (X : Cx) (F : Value → Sem Value) (g : U → Sto → R U) : Prop := ∃ r, UnR X F r ∧ (∀ x S, noX (g x S)) ∧ ∀ (w : Wd) (x : U) (v : V) (Q : VK), SR (KMof X) w → VR (KMof X) w x v → Pst (g x w.S) (OkE X w Q) (fun _ _ => False) → r v w.H Q
theorem se_un {a : Expr} {fa : FE} {op : UnaryOp} {g : U → Sto → R U} {pos : Pos} (ho : UnSim X (unaryOp op) g) (ha : SimE X Wx a fa) : SimE X Wx (.UnaryOp op a pos) (f1 g fa) := by
  obtain ⟨r, ho, hn, hg⟩ := ho
  obtain ⟨ta, pa, ha⟩ := ha.out
  refine SimE.mk (pe_un ho pa) (fun w d σ Q s e h => ?_)
  refine ha w d σ _ s e ((Pst.of_bind h).mono (fun x S1 h1 w1 v1 eS st s1 r1 => ?_) fun _ _ q => q)
  subst eS
  exact hg w1 x v1 Q s1 r1 ((pst_noX h1 (hn x w1.S)).mono (fun _ _ q => q.up st) fun _ _ q => q)
def truU (u : U) (S : Sto) : Option Bool := match u with
  | .non => some false
  | .bl b => some b
  | .int i => some (i != 0)
  | .str x => if x.length ≤ sizeLine then some ((x.length : Int) != 0) else none
  | .tup us => some (!us.isEmpty)
  | .lst us => some (!us.isEmpty)
  | .frz us => some (!us.isEmpty)
  | .dic ks _ => some (!ks.isEmpty)
  | .loc n => match S[n]? with
    | some (.lst us) => some (!us.isEmpty)
    | some (.dic ks _) => some (!ks.isEmpty)
    | _ => none
  | .ty _ => none
  | .exc _ _ _ => none
  | .cl _ => none
theorem vrs_empty {K : KM} {w : Wd} {us : List U} {xs : List V} (r : VRs K w us xs) : us.isEmpty = xs.isEmpty := by
  cases r <;> rfl
theorem zip_empty {ks : List Key} {us : List U} {xs : List V} {K : KM} {w : Wd} (l : ks.length = us.length) (r : VRs K w us xs) : (ks.zip xs).isEmpty = ks.isEmpty := by
  have h := r.length
  cases ks with
  | nil => rfl
  | cons k ks =>
    cases xs with
    | nil => rw [List.length_cons] at l; rw [List.length_nil] at h; omega
    | cons x xs => rfl
theorem truU_ok {w : Wd} {u : U} {v : V} {b : Bool} (s : SR (KMof X) w) (r : VR (KMof X) w u v) (h : truU u w.S = some b) : TruV X.K v w.H b := by
  cases r with
  | non => cases h; rfl
  | bl c => cases h; rfl
  | int i => cases h; rfl
  | str x =>
    unfold truU at h
    dsimp only at h
    split at h
    · rename_i hl; cases h; exact ⟨hl, rfl⟩
    · cases h
  | tup hq rs => cases h; exact .inr (.inl ⟨_, hq.sq, by rw [vrs_empty rs]⟩)
  | lst hq n rs => cases h; exact .inl ⟨_, SqL.of hq, by rw [vrs_empty rs]⟩
  | frz hq rs => cases h; exact .inl ⟨_, hq.sq, by rw [vrs_empty rs]⟩
  | dic hq n l rs => cases h; exact .inr (.inr ⟨_, hq, by rw [zip_empty l rs]⟩)
  | @loc n a hm =>
    unfold truU at h
    dsimp only at h
    split at h
    · rename_i us hS
      cases h
      obtain ⟨xs, q, rs⟩ := s.obj n a _ hm hS
      exact .inl ⟨xs, SqL.of q, by rw [vrs_empty rs]⟩
    · rename_i ks us hS
      cases h
      obtain ⟨xs, q, l, rs⟩ := s.obj n a _ hm hS
      exact .inr (.inr ⟨_, q, by rw [zip_empty l rs]⟩)
    · cases h
  | ty n => cases h
  | exc _ _ _ _ => cases h
  | cl _ => cases h
def oB (o : Option Bool) (S : Sto) : R Bool := match o with
  | some b => .ok b S
  | none => .bad
def fTru (fa : FE) : FT := fun d S => (fa d S).bind fun u S1 => oB (truU u S1) S1
theorem tru_post {w : Wd} {ta : TE} {fa : FE} (ha : ∀ (w : Wd) (d : En) (σ : L2.St) (Q : VK), SR (KMof X) w → ER (KMof X) w d σ → Pst (fa d w.S) (OkE X w Q) (XPost X Wx σ w) → ta σ w.H Q)
    {d : En} {σ : L2.St} {Q : Bool → Hp → Prop} (s : SR (KMof X) w) (e : ER (KMof X) w d σ) (h : Pst (fTru fa d w.S) (OkT X w Q) (XPost X Wx σ w)) : ta σ w.H fun x H1 => ∃ k, TruV X.K x H1 k ∧ Q k H1 := by
  refine ha w d σ _ s e ((Pst.of_bind h).mono (fun u S1 h1 w1 v1 eS st s1 r1 => ?_) fun _ _ q => q)
  subst eS
  unfold oB at h1
  split at h1
  · rename_i b hb
    exact ⟨b, truU_ok s1 r1 hb, h1 w1 rfl st s1⟩
  · exact h1.elim
theorem st_val {e : Expr} {f : FE} (h : SimE X Wx e f) (he : ∀ whole, isTrue e X.env whole = (do let v ← whole; standAt e.pos; holding [v] (truthy v)) := by intro _; rfl) : SimT X Wx e (fTru f) := by
  obtain ⟨t, p, h⟩ := h.out
  exact SimT.mk (pt_truth p he) (fun w d σ Q s e h1 => tru_post h s e h1)
def fAnd (fa fb : FT) : FT := fun d S => (fa d S).bind fun b S1 => if b then fb d S1 else .ok false S1
def fOr (fa fb : FT) : FT := fun d S => (fa d S).bind fun b S1 => if b then .ok true S1 else fb d S1
def fNot (fa : FT) : FT := fun d S => (fa d S).bind fun b S1 => .ok (!b) S1
variable {a b : Expr} {pos : Pos} {rest : List Expr}
theorem SimW.t {e : Expr} {f : FT} (h : SimW X Wx e f) : SimT X Wx e f := let ⟨t, p, h⟩ := h.out; SimT.mk p.pt h
theorem sw_and1 {f : FT} (h : SimT X Wx a f) : SimW X Wx (.BoolOp .And [a] pos) f := let ⟨t, p, h⟩ := h.out; SimW.mk (pw_and1 p) h
theorem sw_or1 {f : FT} (h : SimT X Wx a f) : SimW X Wx (.BoolOp .Or [a] pos) f := let ⟨t, p, h⟩ := h.out; SimW.mk (pw_or1 p) h
theorem sw_and {fa fb : FT} (ha : SimT X Wx a fa) (hb : SimW X Wx (.BoolOp .And (b :: rest) pos) fb) : SimW X Wx (.BoolOp .And (a :: b :: rest) pos) (fAnd fa fb) := by
  obtain ⟨ta, pa, ha⟩ := ha.out
  obtain ⟨tb, pb, hb⟩ := hb.out
  refine SimW.mk (pw_and pa pb) (fun w d σ Q s e h => ?_)
  refine ha w d σ _ s e ((Pst.of_bind h).mono (fun c S1 h1 w1 eS st s1 => ?_) fun _ _ q => q)
  subst eS
  cases c with
  | true => exact hb w1 d σ Q s1 (e.ext st.x s) (h1.mono (fun _ _ q => q.up st) fun _ _ q => q.up st)
  | false => exact h1 w1 rfl st s1
theorem sw_or {fa fb : FT} (ha : SimT X Wx a fa) (hb : SimW X Wx (.BoolOp .Or (b :: rest) pos) fb) : SimW X Wx (.BoolOp .Or (a :: b :: rest) pos) (fOr fa fb) := by
  obtain ⟨ta, pa, ha⟩ := ha.out
  obtain ⟨tb, pb, hb⟩ := hb.out
  refine SimW.mk (pw_or pa pb) (fun w d σ Q s e h => ?_)
  refine ha w d σ _ s e ((Pst.of_bind h).mono (fun c S1 h1 w1 eS st s1 => ?_) fun _ _ q => q)
  subst eS
  cases c with
  | false => exact hb w1 d σ Q s1 (e.ext st.x s) (h1.mono (fun _ _ q => q.up st) fun _ _ q => q.up st)
  | true => exact h1 w1 rfl st s1
theorem st_not {f : FT} (h : SimT X Wx a f) : SimT X Wx (.UnaryOp .Not a pos) (fNot f) := by
  obtain ⟨t, p, h⟩ := h.out
  refine SimT.mk (pt_not p) (fun w d σ Q s e h0 => ?_)
  exact h w d σ _ s e ((Pst.of_bind h0).mono (fun c S1 h1 w1 eS st s1 => h1 w1 eS st s1) fun _ _ q => q)
def fAndV (fa fb : FE) : FE := fun d S => (fa d S).bind fun u S1 => match truU u S1 with
  | some true => fb d S1
  | some false => .ok u S1
  | none => .bad
def fOrV (fa fb : FE) : FE := fun d S => (fa d S).bind fun u S1 => match truU u S1 with
  | some true => .ok u S1
  | some false => fb d S1
  | none => .bad
def fNotV (fa : FE) : FE := fun d S => (fa d S).bind fun u S1 => match truU u S1 with
  | some b => .ok (.bl (!b)) S1
  | none => .bad
theorem se_one {op} {f : FE} (h : SimE X Wx a f) : SimE X Wx (.BoolOp op [a] pos) f := let ⟨t, p, h⟩ := h.out; SimE.mk (pe_one p) h
theorem se_and {fa fb : FE} (ha : SimE X Wx a fa) (hb : SimE X Wx (.BoolOp .And (b :: rest) pos) fb) : SimE X Wx (.BoolOp .And (a :: b :: rest) pos) (fAndV fa fb) := by
  obtain ⟨ta, pa, ha⟩ := ha.out
  obtain ⟨tb, pb, hb⟩ := hb.out
  refine SimE.mk (pe_andT pa pb) (fun w d σ Q s e h => ?_)
  refine ha w d σ _ s e ((Pst.of_bind h).mono (fun u S1 h1 w1 v1 eS st s1 r1 => ?_) fun _ _ q => q)
  subst eS
  split at h1
  · rename_i hb'
    refine ⟨true, truU_ok s1 r1 hb', ?_⟩
    exact hb w1 d σ Q s1 (e.ext st.x s) (h1.mono (fun _ _ q => q.up st) fun _ _ q => q.up st)
  · rename_i hb'
    exact ⟨false, truU_ok s1 r1 hb', h1 w1 v1 rfl st s1 r1⟩
  · exact h1.elim
theorem se_or {fa fb : FE} (ha : SimE X Wx a fa) (hb : SimE X Wx (.BoolOp .Or (b :: rest) pos) fb) : SimE X Wx (.BoolOp .Or (a :: b :: rest) pos) (fOrV fa fb) := by
  obtain ⟨ta, pa, ha⟩ := ha.out
  obtain ⟨tb, pb, hb⟩ := hb.out
  refine SimE.mk (pe_orT pa pb) (fun w d σ Q s e h => ?_)
  refine ha w d σ _ s e ((Pst.of_bind h).mono (fun u S1 h1 w1 v1 eS st s1 r1 => ?_) fun _ _ q => q)
  subst eS
  split at h1
  · rename_i hb'
    exact ⟨true, truU_ok s1 r1 hb', h1 w1 v1 rfl st s1 r1⟩
  · rename_i hb'
    refine ⟨false, truU_ok s1 r1 hb', ?_⟩
    exact hb w1 d σ Q s1 (e.ext st.x s) (h1.mono (fun _ _ q => q.up st) fun _ _ q => q.up st)
  · exact h1.elim
theorem se_not {fa : FE} (ha : SimE X Wx a fa) : SimE X Wx (.UnaryOp .Not a pos) (fNotV fa) := by
  obtain ⟨ta, pa, ha⟩ := ha.out
  refine SimE.mk (pe_notT pa) (fun w d σ Q s e h => ?_)
  refine ha w d σ _ s e ((Pst.of_bind h).mono (fun u S1 h1 w1 v1 eS st s1 r1 => ?_) fun _ _ q => q)
  subst eS
  split at h1
  · rename_i c hb'
    exact ⟨c, truU_ok s1 r1 hb', h1 w1 _ rfl st s1 (.bl _)⟩
  · exact h1.elim
def fIf {α : Type} (c : FT) (fa fb : En → Sto → R α) : En → Sto → R α := fun d S => (c d S).bind fun b S1 => if b then fa d S1 else fb d S1
theorem se_if {c : Expr} {fc : FT} {fa fb : FE} (hc : SimT X Wx c fc) (ha : SimE X Wx a fa) (hb : SimE X Wx b fb) : SimE X Wx (.IfExp c a b pos) (fIf fc fa fb) := by
  obtain ⟨tc, pc, hc⟩ := hc.out
  obtain ⟨ta, pa, ha⟩ := ha.out
  obtain ⟨tb, pb, hb⟩ := hb.out
  refine SimE.mk (pe_ifExp pc pa pb) (fun w d σ Q s e h => ?_)
  refine hc w d σ _ s e ((Pst.of_bind h).mono (fun k S1 h1 w1 eS st s1 => ?_) fun _ _ q => q)
  subst eS
  cases k with
  | true => exact ha w1 d σ Q s1 (e.ext st.x s) (h1.mono (fun _ _ q => q.up st) fun _ _ q => q.up st)
  | false => exact hb w1 d σ Q s1 (e.ext st.x s) (h1.mono (fun _ _ q => q.up st) fun _ _ q => q.up st)
def aNil : FA := fun _ S => .ok [] S
def aCons (f : FE) (g : FA) : FA := fun d S => (f d S).bind fun u S1 => (g d S1).bind fun us S2 => .ok (u :: us) S2
theorem sa_nil : SimA X Wx [] aNil := SimA.mk (pa_nil) (fun w d σ Q s e h => h w [] rfl (Stp.refl w) s .nil)
theorem sa_cons {e : Expr} {es : List Expr} {f : FE} {g : FA} (h1 : SimE X Wx e f) (h2 : SimA X Wx es g) (hs : starEach (e :: es) X.env = (false, eval e X.env) :: starEach es X.env := by rfl) : SimA X Wx (e :: es) (aCons f g) := by
  obtain ⟨t, p, h1⟩ := h1.out
  obtain ⟨u, q, h2⟩ := h2.out
  refine SimA.mk (pa_cons p q hs) (fun w d σ Q s e h => ?_)
  refine h1 w d σ _ s e ((Pst.of_bind h).mono (fun x S1 k1 w1 v1 eS st s1 r1 => ?_) fun _ _ q => q)
  subst eS
  refine h2 w1 d σ _ s1 (e.ext st.x s) ((Pst.of_bind k1).mono (fun us S2 k2 w2 vs eS2 st2 s2 r2 => ?_) fun _ _ q => q.up st)
  subst eS2
  exact k2 w2 (v1 :: vs) rfl (st.trans st2) s2 (.cons (r1.ext st2.x s1) r2)
def fTup (g : FA) : FE := fun d S => (g d S).bind fun us S1 => if us.length ≤ sizeLine then .ok (.tup us) S1 else .bad
theorem se_tup {es : List Expr} {g : FA} {k} (h : SimA X Wx es g) : SimE X Wx (.Tuple es k pos) (fTup g) := by
  obtain ⟨t, p, h⟩ := h.out
  refine SimE.mk (pe_tup p) (fun w d σ Q s e h0 => ?_)
  refine h w d σ _ s e ((Pst.of_bind h0).mono (fun us S1 h1 w1 vs eS st s1 rs => ?_) fun _ _ q => q)
  subst eS
  split at h1
  · rename_i hl
    refine ⟨by rw [← rs.length]; exact hl, fun p hp => ?_⟩
    have st1 := Stp.new s1 (o := .tup vs) hp
    exact h1 (w1.new p (.tup vs)) (.ref p) rfl (st.trans st1) (s1.new hp) (.tup (TqT.of upd_same) (rs.ext st1.x s1))
  · exact h1.elim
def aLst (g : FA) : FA := fun d S => (g d S).bind fun us S1 => if us.length ≤ sizeLine then .ok us S1 else .bad
theorem sl_lst {es : List Expr} {g : FA} (h : SimA X Wx es g) : SimL X Wx (.List es pos) (aLst g) := by
  obtain ⟨t, p, h⟩ := h.out
  refine SimL.mk (pe_lst p) (fun w d σ Q s e h0 => ?_)
  refine h w d σ _ s e ((Pst.of_bind h0).mono (fun us S1 h1 w1 vs eS st s1 rs => ?_) fun _ _ q => q)
  subst eS
  split at h1
  · rename_i hl
    exact ⟨by rw [← rs.length]; exact hl, fun p hp => h1 w1 p vs rfl st s1 rs hp⟩
  · exact h1.elim
def fVal (g : FA) : FE := fun d S => (g d S).bind fun us S1 => .ok (.lst us) S1
def fLoc (g : FA) : FE := fun d S => (g d S).bind fun us S1 => .ok (.loc S1.length) (S1 ++ [.lst us])
theorem SimL.val {e : Expr} {g : FA} (h : SimL X Wx e g) : SimE X Wx e (fVal g) := by
  obtain ⟨t, p, h⟩ := h.out
  refine SimE.mk (p) (fun w d σ Q s e h0 => ?_)
  refine h w d σ _ s e ((Pst.of_bind h0).mono (fun us S1 h1 w1 p xs eS st s1 rs hp => ?_) fun _ _ q => q)
  subst eS
  have st1 := Stp.new s1 (o := .lst xs) hp
  exact h1 (w1.new p (.lst xs)) (.ref p) rfl (st.trans st1) (s1.new hp) (.lst upd_same (fun q => s1.tracked q hp) (rs.ext st1.x s1))
theorem SimL.loc {e : Expr} {g : FA} (h : SimL X Wx e g) : SimE X Wx e (fLoc g) := by
  obtain ⟨t, p, h⟩ := h.out
  refine SimE.mk (p) (fun w d σ Q s e h0 => ?_)
  refine h w d σ _ s e ((Pst.of_bind h0).mono (fun us S1 h1 w1 p xs eS st s1 rs hp => ?_) fun _ _ q => q)
  subst eS
  have st1 := Stp.push s1 (o := .lst xs) (b := .lst us) hp
  refine h1 (w1.push p (.lst xs) (.lst us)) (.ref p) rfl (st.trans st1) (s1.push hp ⟨xs, upd_same, rs.ext st1.x s1⟩) (.loc ?_)
  show (w1.m ++ [p])[w1.S.length]? = some p
  rw [← s1.len]
  simp
def fIce (f : FE) : FE := fun d S => (f d S).bind fun u S1 => match u with
  | .loc n => match S1[n]? with
    | some (.lst us) => .ok (.lst us) (S1.set n .dead)
    | some (.dic ks us) => .ok (.dic ks us) (S1.set n .dead)
    | _ => .bad
  | _ => .bad
theorem se_ice {e : Expr} {f : FE} (h : SimE X Wx e f) : SimE X Wx e (fIce f) := by
  obtain ⟨t, p, h⟩ := h.out
  refine SimE.mk (p) (fun w d σ Q s e h0 => ?_)
  refine h w d σ _ s e ((Pst.of_bind h0).mono (fun u S1 h1 w1 v1 eS st s1 r1 => ?_) fun _ _ q => q)
  subst eS
  cases r1 with
  | @loc n a hm =>
    dsimp only at h1
    split at h1
    · rename_i us hS
      obtain ⟨xs, q, rs⟩ := s1.obj n a _ hm hS
      exact h1 (w1.ice n) (.ref a) rfl (st.trans (Stp.ice w1 n)) (s1.ice n) (.lst q (live_ice s1 hm hS (by intro z; cases z)) (rs.ext (Ext.ice w1 n) s1))
    · rename_i ks us hS
      obtain ⟨xs, q, l, rs⟩ := s1.obj n a _ hm hS
      exact h1 (w1.ice n) (.ref a) rfl (st.trans (Stp.ice w1 n)) (s1.ice n) (.dic q (live_ice s1 hm hS (by intro z; cases z)) l (rs.ext (Ext.ice w1 n) s1))
    · exact h1.elim
  | _ => exact h1.elim
end
end DL
namespace DL
open PySem PySem.Spec L2
def listM (u : U) (S : Sto) : Option (List U) := match u with
  | .lst us => some us
  | .loc n => match S[n]? with
    | some (.lst us) => some us
    | _ => none
  | _ => none
def listOf (u : U) (S : Sto) : Option (List U) := match u with
  | .frz us => some us
  | u => listM u S
def dictOf (u : U) (S : Sto) : Option (List Key × List U) := match u with
  | .dic ks us => some (ks, us)
  | .loc n => match S[n]? with
    | some (.dic ks us) => some (ks, us)
    | _ => none
  | _ => none
def keyU : U → Option Key
  | .int i => some (.inl i)
  | .str x => some (.inr x)
  | _ => none
def valU : List Key → List U → Key → Option U
  | k :: ks, u :: us, j => if k = j then some u else valU ks us j
  | _, _, _ => none
section
variable {K : KM} {w : Wd}
theorem listM_ok {u : U} {v : V} {us : List U} (s : SR K w) (r : VR K w u v) (h : listM u w.S = some us) : ∃ a xs, v = .ref a ∧ w.H a = some (.lst xs) ∧ VRs K w us xs := by
  cases r with
  | lst hq n rs => cases h; exact ⟨_, _, rfl, hq, rs⟩
  | @loc n a hm =>
    unfold listM at h
    dsimp only at h
    split at h
    · rename_i us' hS
      cases h
      obtain ⟨xs, q, rs⟩ := s.obj n a _ hm hS
      exact ⟨a, xs, rfl, q, rs⟩
    · cases h
  | _ => cases h
theorem listOf_ok {u : U} {v : V} {us : List U} (s : SR K w) (r : VR K w u v) (h : listOf u w.S = some us) : ∃ a xs, v = .ref a ∧ SqL K w.H a xs ∧ VRs K w us xs := by
  cases r with
  | frz hq rs => cases h; exact ⟨_, _, rfl, hq.sq, rs⟩
  | lst hq n rs => cases h; exact ⟨_, _, rfl, SqL.of hq, rs⟩
  | loc hm =>
    obtain ⟨a, xs, e, q, rs⟩ := listM_ok s (.loc hm) h
    exact ⟨a, xs, e, SqL.of q, rs⟩
  | _ => cases h
theorem dictOf_ok {u : U} {v : V} {ks : List Key} {us : List U} (s : SR K w) (r : VR K w u v) (h : dictOf u w.S = some (ks, us)) : ∃ a xs, v = .ref a ∧ w.H a = some (.dK (ks.zip xs)) ∧ ks.length = us.length ∧ VRs K w us xs := by
  cases r with
  | dic hq n l rs => cases h; exact ⟨_, _, rfl, hq, l, rs⟩
  | @loc n a hm =>
    unfold dictOf at h
    dsimp only at h
    split at h
    · rename_i ks' us' hS
      cases h
      obtain ⟨xs, q, l, rs⟩ := s.obj n a _ hm hS
      exact ⟨a, xs, rfl, q, l, rs⟩
    · cases h
  | _ => cases h
theorem keyU_ok {u : U} {v : V} {k : Key} (r : VR K w u v) (h : keyU u = some k) : v = kV k := by
  cases r with
  | int i => cases h; rfl
  | str x => cases h; rfl
  | _ => cases h
theorem valU_ok : ∀ {ks : List Key} {us : List U} {xs : List V} (k : Key), VRs K w us xs → (valU ks us k = none → valV (ks.zip xs) k = none) ∧ ∀ u, valU ks us k = some u → ∃ v, valV (ks.zip xs) k = some v ∧ VR K w u v
  | [], us, xs, k, r => ⟨fun _ => by rw [List.zip_nil_left]; exact valV_nil, fun u h => by unfold valU at h; cases h⟩
  | k' :: ks, _, _, k, .nil => ⟨fun _ => by rw [List.zip_nil_right]; exact valV_nil, fun u h => by unfold valU at h; cases h⟩
  | k' :: ks, u :: us, x :: xs, k, .cons r rs => by
    rw [List.zip_cons_cons]
    by_cases e : k' = k
    · refine ⟨fun h => ?_, fun y h => ?_⟩
      · unfold valU at h; rw [if_pos e] at h; cases h
      · unfold valU at h; rw [if_pos e] at h; cases h; exact ⟨x, valV_pos e, r⟩
    · rw [valV_neg e]
      unfold valU
      rw [if_neg e]
      exact valU_ok k rs
theorem valU_rel {ks : List Key} {us : List U} {xs : List V} (k : Key) (r : VRs K w us xs) : (valU ks us k).isSome = (valV (ks.zip xs) k).isSome := by
  obtain ⟨h1, h2⟩ := valU_ok (ks := ks) k r
  cases h : valU ks us k with
  | none => rw [h1 h]; rfl
  | some u => obtain ⟨v, e, _⟩ := h2 u h; rw [e]; rfl
end
mutual
def toD : U → Option PyData
  | .non => some .none
  | .bl b => some (.bool b)
  | .int i => some (.int i)
  | .str x => some (.str x)
  | .tup us => (toDs us).map .tuple
  | .lst us => (toDs us).map .list
  | .frz us => (toDs us).map .list
  | .dic _ _ => none
  | .loc _ => none
  | .ty _ => none
  | .exc _ _ _ => none
  | .cl _ => none
def toDs : List U → Option (List PyData)
  | [] => some []
  | u :: us => match toD u, toDs us with
    | some d, some ds => some (d :: ds)
    | _, _ => none
end
section
variable {K : KM} {w : Wd}
mutual
theorem toD_ok : ∀ {u : U} {v : V} {d : PyData}, VR K w u v → toD u = some d → Dp K w.H v d
  | _, _, _, .non, h => by unfold toD at h; cases h; exact .non
  | _, _, _, .bl b, h => by unfold toD at h; cases h; exact .bl b
  | _, _, _, .int i, h => by unfold toD at h; cases h; exact .int i
  | _, _, _, .str x, h => by unfold toD at h; cases h; exact .str x
  | _, _, _, .tup (us := us) hq rs, h => by
    unfold toD at h
    cases e : toDs us with
    | none => rw [e] at h; cases h
    | some ds => rw [e] at h; cases h; exact .tup hq.sq (toDs_ok rs e)
  | _, _, _, .lst (us := us) hq _ rs, h => by
    unfold toD at h
    cases e : toDs us with
    | none => rw [e] at h; cases h
    | some ds => rw [e] at h; cases h; exact .lst (SqL.of hq) (toDs_ok rs e)
  | _, _, _, .frz (us := us) hq rs, h => by
    unfold toD at h
    cases e : toDs us with
    | none => rw [e] at h; cases h
    | some ds => rw [e] at h; cases h; exact .lst hq.sq (toDs_ok rs e)
  | _, _, _, .dic _ _ _ _, h => by unfold toD at h; cases h
  | _, _, _, .loc _, h => by unfold toD at h; cases h
  | _, _, _, .ty _, h => by unfold toD at h; cases h
  | _, _, _, .exc _ _ _ _, h => by unfold toD at h; cases h
  | _, _, _, .cl _, h => by unfold toD at h; cases h
theorem toDs_ok : ∀ {us : List U} {vs : List V} {ds : List PyData}, VRs K w us vs → toDs us = some ds → DpAll K w.H vs ds
  | _, _, _, .nil, h => by unfold toDs at h; cases h; exact .nil
  | _, _, _, .cons (u := u) (us := us) r rs, h => by
    unfold toDs at h
    split at h
    · rename_i d ds e1 e2
      cases h
      exact .cons (toD_ok r e1) (toDs_ok rs e2)
    · cases h
end
def toDS (u : U) (S : Sto) : Option PyData := match u with
  | .loc n => match S[n]? with
    | some (.lst us) => (toDs us).map .list
    | _ => none
  | u => toD u
theorem toDS_ok {u : U} {v : V} {d : PyData} (s : SR K w) (r : VR K w u v) (h : toDS u w.S = some d) : Dp K w.H v d := by
  by_cases hl : ∃ n, u = .loc n
  · obtain ⟨n, rfl⟩ := hl
    cases r with
    | @loc _ a hm =>
      unfold toDS at h
      dsimp only at h
      split at h
      · rename_i us hS
        obtain ⟨xs, q, rs⟩ := s.obj n a _ hm hS
        cases e : toDs us with
        | none => rw [e] at h; cases h
        | some ds => rw [e] at h; cases h; exact .lst (SqL.of q) (toDs_ok rs e)
      · cases h
  · refine toD_ok r ?_
    unfold toDS at h
    split at h
    · exact absurd ⟨_, rfl⟩ hl
    · exact h
end
abbrev bI (b : Bool) : Int := if b then 1 else 0
def guard {α : Type} (c : Bool) (r : R α) : R α := if c then r else .bad
def addU (x y : U) (S : Sto) : R U := match x, y with
  | .int i, .int j => .ok (.int (i + j)) S
  | .int i, .bl b => .ok (.int (i + bI b)) S
  | .str a, .str b => guard (decide (a.length + b.length ≤ sizeLine)) (.ok (.str (a ++ b)) S)
  | .tup a, .tup b => guard (decide (a.length + b.length ≤ sizeLine)) (.ok (.tup (a ++ b)) S)
  | x, y => match listM x S, listM y S with
    | some a, some b => guard (decide (a.length + b.length ≤ sizeLine)) (.ok (.lst (a ++ b)) S)
    | _, _ => .bad
def subU (x y : U) (S : Sto) : R U := match x, y with
  | .int i, .int j => .ok (.int (i - j)) S
  | _, _ => .bad
def mulOk (i j : Int) : Bool := decide ((Builtin.Int.intBits i : Int) + (Builtin.Int.intBits j : Int) ≤ 134217728)
def mulU (x y : U) (S : Sto) : R U := match x, y with
  | .int i, .int j => guard (mulOk i j) (.ok (.int (i * j)) S)
  | x, .int k => match listM x S with
    | some a => guard (decide (-(2 ^ 63) ≤ k) && decide (k < 2 ^ 63) && decide (a.length * k.toNat ≤ sizeLine)) (.ok (.lst (List.replicate k.toNat a).flatten) S)
    | none => .bad
  | _, _ => .bad
def fdivU (x y : U) (S : Sto) : R U := match x, y with
  | .int i, .int j => guard (decide (0 < j) && decide (j.natAbs.log2 < 9000)) (.ok (.int (i / j)) S)
  | _, _ => .bad
def modU (x y : U) (S : Sto) : R U := match x, y with
  | .int i, .int j => guard (decide (0 < j)) (.ok (.int (i % j)) S)
  | _, _ => .bad
def powU (x y : U) (S : Sto) : R U := match x, y with
  | .int i, .int j => guard (decide (0 ≤ j) && decide (j ≤ 1000000) && decide (i.natAbs < 2 ^ 64)) (.ok (.int (i ^ j.toNat)) S)
  | _, _ => .bad
section
variable {X : Cx}
theorem guard_post {α : Type} {c : Bool} {r : R α} {P : α → Sto → Prop} {E : Exc → Sto → Prop} (h : Pst (guard c r) P E) : c = true ∧ Pst r P E := by
  unfold guard at h
  cases c with
  | true => exact ⟨rfl, h⟩
  | false => exact h.elim
theorem noX_guard {c : Bool} {r : R U} (h : noX r) : noX (guard c r) := by
  unfold guard; cases c with
  | true => exact h
  | false => trivial
theorem noX_add (x y : U) (S : Sto) : noX (addU x y S) := by
  unfold addU
  split <;> first | trivial | exact noX_guard trivial | (split <;> first | trivial | exact noX_guard trivial)
theorem noX_sub (x y : U) (S : Sto) : noX (subU x y S) := by
  unfold subU; split <;> trivial
theorem noX_mul (x y : U) (S : Sto) : noX (mulU x y S) := by
  unfold mulU
  split <;> first | trivial | exact noX_guard trivial | (split <;> first | trivial | exact noX_guard trivial)
theorem noX_fdiv (x y : U) (S : Sto) : noX (fdivU x y S) := by
  unfold fdivU; split <;> first | trivial | exact noX_guard trivial
theorem noX_mod (x y : U) (S : Sto) : noX (modU x y S) := by
  unfold modU; split <;> first | trivial | exact noX_guard trivial
theorem noX_pow (x y : U) (S : Sto) : noX (powU x y S) := by
  unfold powU; split <;> first | trivial | exact noX_guard trivial
theorem os_add : OpSim X (binaryOp .Add) addU := by
  refine ⟨_, op_add.or (op_add_ib.or (op_add_str.or (op_cat.or op_catA))), fun w x y v v' Q s rx ry h => ?_⟩
  have lists : ∀ {x y : U} {v v' : V}, VR (KMof X) w x v → VR (KMof X) w y v' → Pst (match listM x w.S, listM y w.S with
    | some a, some b => guard (decide (a.length + b.length ≤ sizeLine)) (.ok (.lst (a ++ b)) w.S)
    | _, _ => .bad) (OkE X w Q) (fun _ _ => False) → rCat v v' w.H Q := fun {x y v v'} rx ry h => by
    split at h
    · rename_i a b h1 h2
      obtain ⟨hl, h⟩ := guard_post h
      obtain ⟨p, xs, rfl, q, rs⟩ := listM_ok s rx h1
      obtain ⟨p', xs', rfl, q', rs'⟩ := listM_ok s ry h2
      refine ⟨p, p', xs, xs', rfl, rfl, q, q', by rw [← rs.length, ← rs'.length]; exact of_decide_eq_true hl, fun z hz => ?_⟩
      have st := Stp.new s (o := .lst (xs ++ xs')) hz
      exact h (w.new z _) (.ref z) rfl st (s.new hz) (.lst upd_same (fun q => s.tracked q hz) ((rs.append rs').ext st.x s))
    · exact h.elim
  unfold addU at h
  split at h
  · cases rx; cases ry; exact .inl ⟨_, _, rfl, rfl, OkE.here h s (.int _)⟩
  · cases rx; cases ry; exact .inr (.inl ⟨_, _, rfl, rfl, OkE.here h s (.int _)⟩)
  · obtain ⟨hl, h⟩ := guard_post h
    cases rx; cases ry; exact .inr (.inr (.inl ⟨_, _, rfl, rfl, of_decide_eq_true hl, OkE.here h s (.str _)⟩))
  · rename_i a b
    obtain ⟨hl, h⟩ := guard_post h
    cases rx with
    | @tup p xs _ hq rs =>
      cases ry with
      | @tup p' xs' _ hq' rs' =>
        refine .inr (.inr (.inr (.inr ⟨p, p', xs, xs', rfl, rfl, hq.sq, hq'.sq, by rw [← rs.length, ← rs'.length]; exact of_decide_eq_true hl, fun e => ?_, fun _ e => ?_, fun _ _ z hz => ?_⟩)))
        · subst e
          cases rs
          exact OkE.here h s (.tup hq' rs')
        · subst e
          cases rs'
          rw [List.append_nil] at h
          exact OkE.here h s (.tup hq rs)
        · have st := Stp.new s (o := .tup (xs ++ xs')) hz
          exact h (w.new z _) (.ref z) rfl st (s.new hz) (.tup (TqT.of upd_same) ((rs.append rs').ext st.x s))
  · exact .inr (.inr (.inr (.inl (lists rx ry h))))
theorem os_sub : OpSim X (binaryOp .Sub) subU := by
  refine ⟨_, op_sub, fun w x y v v' Q s rx ry h => ?_⟩
  unfold subU at h
  split at h
  · cases rx; cases ry; exact ⟨_, _, rfl, rfl, OkE.here h s (.int _)⟩
  · exact h.elim
theorem os_mul : OpSim X (binaryOp .Mult) mulU := by
  refine ⟨_, op_mulX.or op_rep, fun w x y v v' Q s rx ry h => ?_⟩
  unfold mulU at h
  split at h
  · obtain ⟨hl, h⟩ := guard_post h
    cases rx; cases ry; exact .inl ⟨_, _, rfl, rfl, show (_ : Int) ≤ _ from of_decide_eq_true hl, OkE.here h s (.int _)⟩
  · rename_i k _
    split at h
    · rename_i a h1
      obtain ⟨hl, h⟩ := guard_post h
      simp only [Bool.and_eq_true, decide_eq_true_eq] at hl
      obtain ⟨⟨l1, l2⟩, l3⟩ := hl
      obtain ⟨p, xs, rfl, q, rs⟩ := listM_ok s rx h1
      cases ry
      refine .inr ⟨p, k, xs, rfl, rfl, q, l1, l2, by rw [← rs.length]; exact l3, fun z hz => ?_⟩
      have st := Stp.new s (o := .lst (List.replicate k.toNat xs).flatten) hz
      have rep : ∀ n : Nat, VRs (KMof X) w (List.replicate n a).flatten (List.replicate n xs).flatten := fun n => by
        induction n with
        | zero => exact .nil
        | succ n ih => rw [List.replicate_succ, List.replicate_succ, List.flatten_cons, List.flatten_cons]; exact rs.append ih
      exact h (w.new z _) (.ref z) rfl st (s.new hz) (.lst upd_same (fun q => s.tracked q hz) ((rep k.toNat).ext st.x s))
    · exact h.elim
  · exact h.elim
theorem os_fdiv : OpSim X (binaryOp .FloorDiv) fdivU := by
  refine ⟨_, op_fdivW, fun w x y v v' Q s rx ry h => ?_⟩
  unfold fdivU at h
  split at h
  · obtain ⟨hl, h⟩ := guard_post h
    simp only [Bool.and_eq_true, decide_eq_true_eq] at hl
    cases rx; cases ry; exact ⟨_, _, rfl, rfl, hl, OkE.here h s (.int _)⟩
  · exact h.elim
theorem os_mod : OpSim X (binaryOp .Mod) modU := by
  refine ⟨_, op_mod, fun w x y v v' Q s rx ry h => ?_⟩
  unfold modU at h
  split at h
  · obtain ⟨hl, h⟩ := guard_post h
    cases rx; cases ry; exact ⟨_, _, rfl, rfl, of_decide_eq_true hl, OkE.here h s (.int _)⟩
  · exact h.elim
theorem os_pow : OpSim X (binaryOp .Pow) powU := by
  refine ⟨_, op_pow, fun w x y v v' Q s rx ry h => ?_⟩
  unfold powU at h
  split at h
  · obtain ⟨hl, h⟩ := guard_post h
    simp only [Bool.and_eq_true, decide_eq_true_eq] at hl
    cases rx; cases ry; exact ⟨_, _, rfl, rfl, ⟨hl.1.1, hl.1.2, hl.2⟩, OkE.here h s (.int _)⟩
  · exact h.elim
def negU (x : U) (S : Sto) : R U := match x with
  | .int i => .ok (.int (-i)) S
  | _ => .bad
theorem us_neg : UnSim X (unaryOp .USub) negU := by
  refine ⟨_, un_neg, fun x S => by unfold negU; split <;> trivial, fun w x v Q s rx h => ?_⟩
  unfold negU at h
  split at h
  · cases rx; exact ⟨_, rfl, OkE.here h s (.int _)⟩
  · exact h.elim
def flatU : U → Bool
  | .non => true
  | .bl _ => true
  | .int _ => true
  | .str _ => true
  | _ => false
def eqF : U → U → Bool
  | .non, .non => true
  | .bl a, .bl b => a == b
  | .bl a, .int j => bI a == j
  | .int i, .bl b => i == bI b
  | .int i, .int j => i == j
  | .str x, .str y => x == y
  | _, _ => false
def scalU : U → U → Bool
  | .bl _, .int _ => false
  | .int _, .bl _ => false
  | x, y => flatU x && flatU y
theorem scal_ok {w : Wd} {x y : U} {v v' : V} (r : VR (KMof X) w x v) (r' : VR (KMof X) w y v') (h : scalU x y = true) : scal v v' = true ∧ decide (v = v') = eqF x y := by
  cases r <;> cases r' <;> first
    | (exfalso; exact Bool.noConfusion h)
    | exact ⟨rfl, rfl⟩
    | exact ⟨rfl, decide_eq_false fun z => nomatch z⟩
    | exact ⟨rfl, decide_eq_true rfl⟩
    | exact ⟨rfl, dec_int⟩
    | exact ⟨rfl, dec_bl⟩
    | exact ⟨rfl, dec_str⟩
def eqOk (x y : U) (S : Sto) (g : Bool → Bool) : R U := if scalU x y then .ok (.bl (g (eqF x y))) S else match toDS x S, toDS y S with
  | some a, some b => guard (SeqAt.shaped a && SeqAt.shaped b) (.ok (.bl (g (PyData.eqv a b))) S)
  | _, _ => .bad
def eqU (x y : U) (S : Sto) : R U := eqOk x y S id
def neU (x y : U) (S : Sto) : R U := eqOk x y S not
theorem noX_eqOk (x y : U) (S : Sto) (g : Bool → Bool) : noX (eqOk x y S g) := by
  unfold eqOk
  split
  · trivial
  · split <;> first | trivial | exact noX_guard trivial
theorem noX_eq (x y : U) (S : Sto) : noX (eqU x y S) := noX_eqOk x y S id
theorem noX_ne (x y : U) (S : Sto) : noX (neU x y S) := noX_eqOk x y S not
theorem os_eq (hu : X.A.units + 64 < cLine) : OpSim X (compareOp .Eq) eqU := by
  refine ⟨_, op_eq.or (op_eqD hu), fun w x y v v' Q s rx ry h => ?_⟩
  unfold eqU eqOk at h
  split at h
  · rename_i hs
    obtain ⟨h1, h2⟩ := scal_ok rx ry hs
    exact .inl ⟨h1, by rw [h2]; exact OkE.here h s (.bl _)⟩
  · split at h
    · rename_i a b h1 h2
      obtain ⟨hl, h⟩ := guard_post h
      simp only [Bool.and_eq_true] at hl
      exact .inr ⟨a, b, toDS_ok s rx h1, toDS_ok s ry h2, hl.1, hl.2, OkE.here h s (.bl _)⟩
    · exact h.elim
theorem os_ne (hu : X.A.units + 64 < cLine) : OpSim X (compareOp .NotEq) neU := by
  refine ⟨_, op_ne.or (op_neD hu), fun w x y v v' Q s rx ry h => ?_⟩
  unfold neU eqOk at h
  split at h
  · rename_i hs
    obtain ⟨h1, h2⟩ := scal_ok rx ry hs
    exact .inl ⟨h1, by rw [h2]; exact OkE.here h s (.bl _)⟩
  · split at h
    · rename_i a b h1 h2
      obtain ⟨hl, h⟩ := guard_post h
      simp only [Bool.and_eq_true] at hl
      exact .inr ⟨a, b, toDS_ok s rx h1, toDS_ok s ry h2, hl.1, hl.2, OkE.here h s (.bl _)⟩
    · exact h.elim
def ltU (x y : U) (S : Sto) : R U := match x, y with
  | .int i, .int j => .ok (.bl (decide (i < j))) S
  | .str a, .str b => .ok (.bl (decide (a.cps.toList < b.cps.toList))) S
  | _, _ => .bad
def leU (x y : U) (S : Sto) : R U := match x, y with
  | .int i, .int j => .ok (.bl (decide (i ≤ j))) S
  | _, _ => .bad
def gtU (x y : U) (S : Sto) : R U := match x, y with
  | .int i, .int j => .ok (.bl (decide (j < i))) S
  | _, _ => .bad
def geU (x y : U) (S : Sto) : R U := match x, y with
  | .int i, .int j => .ok (.bl (decide (j ≤ i))) S
  | _, _ => .bad
theorem noX_lt (x y : U) (S : Sto) : noX (ltU x y S) := by unfold ltU; split <;> trivial
theorem noX_le (x y : U) (S : Sto) : noX (leU x y S) := by unfold leU; split <;> trivial
theorem noX_gt (x y : U) (S : Sto) : noX (gtU x y S) := by unfold gtU; split <;> trivial
theorem noX_ge (x y : U) (S : Sto) : noX (geU x y S) := by unfold geU; split <;> trivial
theorem os_lt : OpSim X (compareOp .Lt) ltU := by
  refine ⟨_, op_lt.or op_lt_str, fun w x y v v' Q s rx ry h => ?_⟩
  unfold ltU at h
  split at h
  · cases rx; cases ry; exact .inl ⟨_, _, rfl, rfl, OkE.here h s (.bl _)⟩
  · cases rx; cases ry; exact .inr ⟨_, _, rfl, rfl, OkE.here h s (.bl _)⟩
  · exact h.elim
theorem os_le : OpSim X (compareOp .LtE) leU := by
  refine ⟨_, op_le, fun w x y v v' Q s rx ry h => ?_⟩
  unfold leU at h
  split at h
  · cases rx; cases ry; exact ⟨_, _, rfl, rfl, OkE.here h s (.bl _)⟩
  · exact h.elim
theorem os_gt : OpSim X (compareOp .Gt) gtU := by
  refine ⟨_, op_gt, fun w x y v v' Q s rx ry h => ?_⟩
  unfold gtU at h
  split at h
  · cases rx; cases ry; exact ⟨_, _, rfl, rfl, OkE.here h s (.bl _)⟩
  · exact h.elim
theorem os_ge : OpSim X (compareOp .GtE) geU := by
  refine ⟨_, op_ge, fun w x y v v' Q s rx ry h => ?_⟩
  unfold geU at h
  split at h
  · cases rx; cases ry; exact ⟨_, _, rfl, rfl, OkE.here h s (.bl _)⟩
  · exact h.elim
def isNon : U → Bool
  | .non => true
  | _ => false
def isU (x y : U) (S : Sto) : R U := match y with
  | .non => .ok (.bl (isNon x)) S
  | _ => .bad
def isnU (x y : U) (S : Sto) : R U := match y with
  | .non => .ok (.bl (!isNon x)) S
  | _ => .bad
theorem noX_is (x y : U) (S : Sto) : noX (isU x y S) := by unfold isU; split <;> trivial
theorem isNon_ok {w : Wd} {x : U} {v : V} (r : VR (KMof X) w x v) : decide (v = .non) = isNon x := by
  cases r <;> first | rfl | exact decide_eq_false (fun z => nomatch z)
theorem os_is : OpSim X (compareOp .Is) isU := by
  refine ⟨_, op_isN, fun w x y v v' Q s rx ry h => ?_⟩
  unfold isU at h
  split at h
  · cases ry; exact ⟨rfl, by rw [isNon_ok rx]; exact OkE.here h s (.bl _)⟩
  · exact h.elim
def inStr (a b : Str) : Bool := match a.cps.toList with
  | [c] => decide (c ∈ b.cps.toList)
  | _ => !(Builtin.Str.occurrences b a 0 b.length 1).isEmpty
def flatL (x y : U) (S : Sto) : Option Bool := match listOf y S with
  | some us => if flatU x && us.all flatU then some (us.any fun z => eqF z x) else none
  | none => none
def inB (x y : U) (S : Sto) : Option Bool := match y with
  | .str b => match x with
    | .str a => some (inStr a b)
    | _ => none
  | .tup us => if flatU x && us.all flatU then some (us.any fun z => eqF z x) else none
  | y => match dictOf y S, keyU x with
    | some (ks, us), some k => some (valU ks us k).isSome
    | _, _ => match flatL x y S with
      | some b => some b
      | none => match toDS x S, toDS y S with
        | some d, some (.list ds) => if SeqAt.shaped d && SeqAt.shaped (.list ds) then some (ds.any fun z => PyData.eqv z d) else none
        | _, _ => none
def inU (x y : U) (S : Sto) : R U := match inB x y S with
  | some b => .ok (.bl b) S
  | none => .bad
def ninU (x y : U) (S : Sto) : R U := match inB x y S with
  | some b => .ok (.bl (!b)) S
  | none => .bad
theorem noX_in (x y : U) (S : Sto) : noX (inU x y S) := by unfold inU; split <;> trivial
theorem noX_nin (x y : U) (S : Sto) : noX (ninU x y S) := by unfold ninU; split <;> trivial
end
end DL
namespace DL
open PySem PySem.Spec L2
section
variable {X : Cx} {Wx : WX}
theorem op_in_dict (hu : X.A.units + 1 < cLine) : OpR X (compareOp .In) (fun y x H Q => ∃ a o, x = .ref a ∧ DGet H a y o ∧ Q (.bl o.isSome) H) := by
  intro pins s σ H x y v u Q I rx ry h
  obtain ⟨a, o, rfl, g, q⟩ := h
  cases ry
  exact d_in hu I g rx fun s' I' => ⟨.bl o.isSome, H, I', rfl, q⟩
theorem op_nin_dict (hu : X.A.units + 1 < cLine) : OpR X (compareOp .NotIn) (fun y x H Q => ∃ a o, x = .ref a ∧ DGet H a y o ∧ Q (.bl (!o.isSome)) H) := by
  intro pins s σ H x y v u Q I rx ry h
  obtain ⟨a, o, rfl, g, q⟩ := h
  cases ry
  exact d_notIn hu I g rx fun s' I' => ⟨.bl (!o.isSome), H, I', rfl, q⟩
theorem flat_ok {K : KM} {w : Wd} {u : U} {v : V} (r : VR K w u v) (h : flatU u = true) : flatV v = true := by
  cases r <;> first | rfl | cases h
theorem flats_ok {K : KM} {w : Wd} : ∀ {us : List U} {vs : List V}, VRs K w us vs → us.all flatU = true → vs.all flatV = true
  | _, _, .nil, _ => rfl
  | _, _, .cons r rs, h => by
    rw [List.all_cons, Bool.and_eq_true] at h
    rw [List.all_cons, flat_ok r h.1, flats_ok rs h.2]; rfl
theorem eqF_ok {K : KM} {w : Wd} {x y : U} {v v' : V} (r : VR K w x v) (r' : VR K w y v') (h : flatU x = true) (h' : flatU y = true) : eqV v v' = eqF x y := by
  cases r <;> first | (exfalso; exact Bool.noConfusion h) | (cases r' <;> first | (exfalso; exact Bool.noConfusion h') | rfl)
theorem anyF_ok {K : KM} {w : Wd} {y : U} {v' : V} (r' : VR K w y v') (h' : flatU y = true) : ∀ {us : List U} {vs : List V}, VRs K w us vs → us.all flatU = true → inV v' vs = us.any fun z => eqF z y
  | _, _, .nil, _ => rfl
  | _, _, .cons r rs, h => by
    rw [List.all_cons, Bool.and_eq_true] at h
    unfold inV
    rw [List.any_cons, List.any_cons, eqF_ok r r' h.1 h', ← anyF_ok r' h' rs h.2]
    rfl
theorem inStr_one {a b : Str} {c : Nat} (h : a.cps.toList = [c]) : a = ⟨#[c]⟩ ∧ inStr a b = decide (c ∈ b.cps.toList) := by
  refine ⟨?_, ?_⟩
  · cases a with
    | mk l => cases l with
      | mk l => cases h; rfl
  · unfold inStr; rw [h]
theorem inB_cases {w : Wd} {x y : U} {v v' : V} {b : Bool} (s : SR (KMof X) w) (rx : VR (KMof X) w x v) (ry : VR (KMof X) w y v') (h : inB x y w.S = some b) :
    (∃ c z, v = .str ⟨#[c]⟩ ∧ v' = .str z ∧ b = decide (c ∈ z.cps.toList)) ∨ (∃ i j, v = .str i ∧ v' = .str j ∧ b = !(Builtin.Str.occurrences j i 0 j.length 1).isEmpty) ∨
    (∃ p xs, v' = .ref p ∧ (SqL X.K w.H p xs ∨ SqT X.K w.H p xs) ∧ flatV v = true ∧ xs.all flatV = true ∧ b = inV v xs) ∨
    (∃ d ds, Dp X.K w.H v d ∧ Dp X.K w.H v' (.list ds) ∧ SeqAt.shaped d = true ∧ SeqAt.shaped (.list ds) = true ∧ b = ds.any fun z => PyData.eqv z d) ∨
    (∃ a o, v' = .ref a ∧ DGet w.H a v o ∧ b = o.isSome) := by
  unfold inB at h
  split at h
  · rename_i z
    split at h
    · rename_i i
      cases h
      cases rx; cases ry
      unfold inStr
      split
      · rename_i c hc
        exact .inl ⟨c, z, by rw [(inStr_one (b := z) hc).1], rfl, rfl⟩
      · exact .inr (.inl ⟨i, z, rfl, rfl, rfl⟩)
    · cases h
  · rename_i us
    split at h
    · rename_i hf
      cases h
      rw [Bool.and_eq_true] at hf
      cases ry with
      | tup hq rs => exact .inr (.inr (.inl ⟨_, _, rfl, .inr hq.sq, flat_ok rx hf.1, flats_ok rs hf.2, (anyF_ok rx hf.1 rs hf.2).symm⟩))
    · cases h
  · split at h
    · rename_i ks us k h1 h2
      cases h
      obtain ⟨a, xs, rfl, q, l, rs⟩ := dictOf_ok s ry h1
      rw [keyU_ok rx h2]
      exact .inr (.inr (.inr (.inr ⟨a, _, rfl, DGet.k q, valU_rel k rs⟩)))
    · split at h
      · rename_i b0 hb0
        cases h
        unfold flatL at hb0
        split at hb0
        · rename_i us hl
          split at hb0
          · rename_i hf
            cases hb0
            rw [Bool.and_eq_true] at hf
            obtain ⟨a, xs, rfl, hq, rs⟩ := listOf_ok s ry hl
            exact .inr (.inr (.inl ⟨_, _, rfl, .inl hq, flat_ok rx hf.1, flats_ok rs hf.2, (anyF_ok rx hf.1 rs hf.2).symm⟩))
          · cases hb0
        · cases hb0
      · split at h
        · rename_i d ds h1 h2
          split at h
          · rename_i hs
            cases h
            rw [Bool.and_eq_true] at hs
            exact .inr (.inr (.inr (.inl ⟨d, ds, toDS_ok s rx h1, toDS_ok s ry h2, hs.1, hs.2, rfl⟩)))
          · cases h
        · cases h
theorem os_in (hu : X.A.units + 66 < cLine) : OpSim X (compareOp .In) inU := by
  refine ⟨_, op_in_sign.or (op_in_str.or (op_in_seq.or ((op_inD (by omega)).or (op_in_dict (by omega))))), fun w x y v v' Q s rx ry h => ?_⟩
  unfold inU at h
  split at h
  · rename_i b hb
    have q := OkE.here h s (.bl b)
    rcases inB_cases s rx ry hb with ⟨c, z, rfl, rfl, e⟩ | ⟨i, j, rfl, rfl, e⟩ | ⟨p, xs, rfl, h1, h2, h3, e⟩ | ⟨d, ds, h1, h2, h3, h4, e⟩ | ⟨a, o, rfl, g, e⟩
    · exact .inl ⟨c, z, rfl, rfl, e ▸ q⟩
    · exact .inr (.inl ⟨i, j, rfl, rfl, e ▸ q⟩)
    · exact .inr (.inr (.inl ⟨p, xs, rfl, h1, h2, h3, e ▸ q⟩))
    · exact .inr (.inr (.inr (.inl ⟨d, ds, h1, h2, h3, h4, e ▸ q⟩)))
    · exact .inr (.inr (.inr (.inr ⟨a, o, rfl, g, e ▸ q⟩)))
  · exact h.elim
theorem os_nin (hu : X.A.units + 66 < cLine) : OpSim X (compareOp .NotIn) ninU := by
  refine ⟨_, op_notIn_sign.or (op_notin_str.or (op_notIn_seq.or ((op_notInD (by omega)).or (op_nin_dict (by omega))))), fun w x y v v' Q s rx ry h => ?_⟩
  unfold ninU at h
  split at h
  · rename_i b hb
    have q := OkE.here h s (.bl (!b))
    rcases inB_cases s rx ry hb with ⟨c, z, rfl, rfl, e⟩ | ⟨i, j, rfl, rfl, e⟩ | ⟨p, xs, rfl, h1, h2, h3, e⟩ | ⟨d, ds, h1, h2, h3, h4, e⟩ | ⟨a, o, rfl, g, e⟩
    · exact .inl ⟨c, z, rfl, rfl, e ▸ q⟩
    · exact .inr (.inl ⟨i, j, rfl, rfl, e ▸ q⟩)
    · exact .inr (.inr (.inl ⟨p, xs, rfl, h1, h2, h3, e ▸ q⟩))
    · exact .inr (.inr (.inr (.inl ⟨d, ds, h1, h2, h3, h4, e ▸ q⟩)))
    · exact .inr (.inr (.inr (.inr ⟨a, o, rfl, g, e ▸ q⟩)))
  · exact h.elim
def ixB (x y : U) (S : Sto) : Option U := match x, y with
  | .str z, .int i => if z.length ≤ sizeLine then (atI z.cps.toList i).map fun c => .str ⟨#[c]⟩ else none
  | .tup us, .int i => atI us i
  | x, y => match listOf x S with
    | some us => match y with
      | .int i => atI us i
      | _ => none
    | none => match dictOf x S, keyU y with
      | some (ks, us), some k => valU ks us k
      | _, _ => none
def oU (o : Option U) (S : Sto) : R U := match o with
  | some u => .ok u S
  | none => .bad
def ixU (x y : U) (S : Sto) : R U := oU (ixB x y S) S
theorem atI_rel {K : KM} {w : Wd} {us : List U} {xs : List V} {i : Int} {u : U} (r : VRs K w us xs) (h : atI us i = some u) : ∃ v, atI xs i = some v ∧ VR K w u v := by
  unfold atI at h ⊢
  rw [← r.length]
  cases q : ixN us.length i with
  | none => rw [q] at h; cases h
  | some j =>
    rw [q] at h
    exact r.get h
theorem ix_dict (hu : X.A.units + 1 < cLine) : IxR X (fun x y H Q => ∃ a v, x = .ref a ∧ DGet H a y (some v) ∧ Q v H) := by
  intro value slice pins s σ H x y v u Q I rx ry h hs
  obtain ⟨a, z, rfl, g, q⟩ := h
  cases rx
  exact PyProof.Rows.tail_any (dict_typeIs I g) slot_dict_getitem.lookup (d_getItem hu I g ry fun w' s' I' r' => ⟨z, H, I', r', q⟩) hs
theorem se_ix {a b : Expr} {fa fb : FE} {pos : Pos} (hu : X.A.units + 1 < cLine) (ha : SimE X Wx a fa) (hb : SimE X Wx b fb) (hs : PlainIx b := by intro _ _; rfl) : SimE X Wx (.Subscript a b pos) (f2 ixU fa fb) := by
  obtain ⟨ta, pa, ha⟩ := ha.out
  obtain ⟨tb, pb, hb⟩ := hb.out
  refine SimE.mk (pe_ix (ix_seq.or (ix_dict hu)) pa pb hs) (fun w d σ Q s e h => two (a := a) (b := b) (r := fun x y H Q => rIx X.K x y H Q ∨ ∃ a v, x = .ref a ∧ DGet H a y (some v) ∧ Q v H) ha hb (fun w x y v v' Q s rx ry h => ?_) (fun x y S => by unfold ixU oU; split <;> trivial) w d σ Q s e h)
  unfold ixU oU at h
  split at h
  · rename_i u hu'
    unfold ixB at hu'
    split at hu'
    · split at hu'
      · rename_i z i hl
        cases rx; cases ry
        cases q : atI z.cps.toList i with
        | none => rw [q] at hu'; cases hu'
        | some c => rw [q] at hu'; cases hu'; exact .inl (.inr (.inr ⟨z, i, c, rfl, rfl, hl, q, OkE.here h s (.str _)⟩))
      · cases hu'
    · cases rx with
      | tup hq rs =>
        cases ry
        obtain ⟨v, e1, e2⟩ := atI_rel rs hu'
        exact .inl (.inr (.inl ⟨_, _, _, v, rfl, rfl, hq.sq, e1, OkE.here h s e2⟩))
    · split at hu'
      · rename_i us hl
        split at hu'
        · obtain ⟨p, xs, rfl, q, rs⟩ := listOf_ok s rx hl
          cases ry
          obtain ⟨v, e1, e2⟩ := atI_rel rs hu'
          exact .inl (.inl ⟨_, _, _, v, rfl, rfl, q, e1, OkE.here h s e2⟩)
        · cases hu'
      · split at hu'
        · rename_i ks us k h1 h2
          obtain ⟨p, xs, rfl, q, l, rs⟩ := dictOf_ok s rx h1
          rw [keyU_ok ry h2]
          obtain ⟨v, e1, e2⟩ := (valU_ok (ks := ks) k rs).2 u hu'
          exact .inr ⟨p, v, rfl, by rw [← e1]; exact DGet.k q, OkE.here h s e2⟩
        · cases hu'
  · exact h.elim
def cutU (us : List U) (lo hi : Option Int) : List U := (us.drop (HT.sIx us.length 0 lo)).take (HT.sIx us.length us.length hi - HT.sIx us.length 0 lo)
theorem cut_rel {K : KM} {w : Wd} {us : List U} {xs : List V} (lo hi : Option Int) (r : VRs K w us xs) : VRs K w (cutU us lo hi) (cutV xs lo hi) := by
  unfold cutU cutV
  rw [← r.length]
  exact (r.drop _).take _
abbrev FO := En → Sto → R (Option Int)
def oNone : FO := fun _ S => .ok none S
def oSome (f : FE) : FO := fun d S => (f d S).bind fun u S1 => match u with
  | .int i => .ok (some i) S1
  | _ => .bad
def OkO (X : Cx) (w : Wd) (Q : Option Int → Hp → Prop) (o : Option Int) (S' : Sto) : Prop := ∀ (w' : Wd), w'.S = S' → Stp w w' → SR (KMof X) w' → Q o w'.H
theorem OkO.up {w w1 : Wd} {Q : Option Int → Hp → Prop} {u : Option Int} {S' : Sto} (h : OkO X w Q u S') (st : Stp w w1) : OkO X w1 Q u S' := fun w' e s2 sr => h w' e (st.trans s2) sr
def tO (X : Cx) (Wx : WX) (f : FO) : TO := fun σ H Q => ∃ (w : Wd) (d : En), w.H = H ∧ SR (KMof X) w ∧ ER (KMof X) w d σ ∧ Pst (f d w.S) (OkO X w Q) (XPost X Wx σ w)
def SimO (X : Cx) (Wx : WX) (e : Option Expr) (f : FO) : Prop := PO X e (tO X Wx f)
theorem SimO.out {e : Option Expr} {f : FO} (h : SimO X Wx e f) : ∃ t, PO X e t ∧ ∀ (w : Wd) (d : En) (σ : L2.St) (Q : Option Int → Hp → Prop), SR (KMof X) w → ER (KMof X) w d σ → Pst (f d w.S) (OkO X w Q) (XPost X Wx σ w) → t σ w.H Q := ⟨_, h, fun w d _ _ s e p => ⟨w, d, rfl, s, e, p⟩⟩
theorem SimO.mk {e : Option Expr} {f : FO} {t : TO} (p : PO X e t) (h : ∀ (w : Wd) (d : En) (σ : L2.St) (Q : Option Int → Hp → Prop), SR (KMof X) w → ER (KMof X) w d σ → Pst (f d w.S) (OkO X w Q) (XPost X Wx σ w) → t σ w.H Q) : SimO X Wx e f :=
  ⟨fun pins s σ H Q I ⟨w, d, e, sr, er, q⟩ => p.run pins s σ H Q I (by subst e; exact h w d σ Q sr er q)⟩
theorem so_none : SimO X Wx none oNone := SimO.mk (po_none) (fun w d σ Q s e h => h w rfl (Stp.refl w) s)
theorem so_some {e : Expr} {f : FE} (h : SimE X Wx e f) : SimO X Wx (some e) (oSome f) := by
  obtain ⟨t, p, h⟩ := h.out
  refine SimO.mk (po_some p) (fun w d σ Q s e h0 => ?_)
  refine h w d σ _ s e ((Pst.of_bind h0).mono (fun u S1 h1 w1 v1 eS st s1 r1 => ?_) fun _ _ q => q)
  cases r1 with
  | int i => exact ⟨i, rfl, h1 w1 eS st s1⟩
  | _ => exact h1.elim
def slB (x : U) (lo hi : Option Int) (S : Sto) : Option U := match x with
  | .str z => if z.length ≤ sizeLine then some (.str (cutS z lo hi)) else none
  | .tup us => some (.tup (cutU us lo hi))
  | x => (listOf x S).map fun us => .lst (cutU us lo hi)
def fSl (f : FE) (l h : FO) : FE := fun d S => (f d S).bind fun u S1 => (l d S1).bind fun lo S2 => (h d S2).bind fun hi S3 => oU (slB u lo hi S3) S3
theorem slice_parts {te : TE} {tl th : TO} {f : FE} {l hh : FO}
    (h1 : ∀ (w : Wd) (d : En) (σ : L2.St) (Q : VK), SR (KMof X) w → ER (KMof X) w d σ → Pst (f d w.S) (OkE X w Q) (XPost X Wx σ w) → te σ w.H Q)
    (h2 : ∀ (w : Wd) (d : En) (σ : L2.St) (Q : Option Int → Hp → Prop), SR (KMof X) w → ER (KMof X) w d σ → Pst (l d w.S) (OkO X w Q) (XPost X Wx σ w) → tl σ w.H Q)
    (h3 : ∀ (w : Wd) (d : En) (σ : L2.St) (Q : Option Int → Hp → Prop), SR (KMof X) w → ER (KMof X) w d σ → Pst (hh d w.S) (OkO X w Q) (XPost X Wx σ w) → th σ w.H Q)
    {α : Type} {k : U → Option Int → Option Int → Sto → R α} {P : α → Sto → Prop} {r : V → Option Int → Option Int → Hp → Prop} {w : Wd} {d : En} {σ : L2.St} (s : SR (KMof X) w) (e : ER (KMof X) w d σ)
    (hk : ∀ (w' : Wd) u v lo hi, Stp w w' → SR (KMof X) w' → VR (KMof X) w' u v → Pst (k u lo hi w'.S) P (XPost X Wx σ w) → r v lo hi w'.H)
    (h : Pst ((f d w.S).bind fun u S1 => (l d S1).bind fun lo S2 => (hh d S2).bind fun hi S3 => k u lo hi S3) P (XPost X Wx σ w)) :
    te σ w.H fun x H1 => tl σ H1 fun lo H2 => th σ H2 fun u H3 => r x lo u H3 := by
  refine h1 w d σ _ s e ((Pst.of_bind h).mono (fun x S1 g1 w1 v1 eS st s1 r1 => ?_) fun _ _ q => q)
  subst eS
  have e1 := e.ext st.x s
  refine h2 w1 d σ _ s1 e1 ((Pst.of_bind g1).mono (fun lo S2 g2 w2 eS st2 s2 => ?_) fun _ _ q => q.up st)
  subst eS
  have e2 := e1.ext st2.x s1
  refine h3 w2 d σ _ s2 e2 ((Pst.of_bind g2).mono (fun hi S3 g3 w3 eS st3 s3 => ?_) fun _ _ q => q.up (st.trans st2))
  subst eS
  exact hk w3 x v1 lo hi ((st.trans st2).trans st3) s3 ((r1.ext st2.x s1).ext st3.x s2) g3
theorem se_slice {e : Expr} {lo hi : Option Expr} {f : FE} {l h : FO} {p2 pos : Pos} (h1 : SimE X Wx e f) (h2 : SimO X Wx lo l) (h3 : SimO X Wx hi h) : SimE X Wx (.Subscript e (.Slice lo hi none p2) pos) (fSl f l h) := by
  obtain ⟨te, pe, h1⟩ := h1.out
  obtain ⟨tl, pl, h2⟩ := h2.out
  obtain ⟨th, ph, h3⟩ := h3.out
  refine SimE.mk (pe_slice (sl_str.or (sl_tupA.or sl_list)) pe pl ph) (fun w d σ Q s e h => slice_parts h1 h2 h3 s e (fun w' u v lo hi st s' r g => ?_) h)
  unfold oU at g
  split at g
  · rename_i z hz
    have g := OkE.up g st
    unfold slB at hz
    split at hz
    · split at hz
      · rename_i hl
        cases hz
        cases r
        exact .inl ⟨_, rfl, hl, OkE.here g s' (.str _)⟩
      · cases hz
    · cases hz
      cases r with
      | @tup p xs us hq rs =>
        refine .inr (.inl ⟨p, xs, rfl, hq.sq, fun q => ?_, fun q z hz => ?_⟩)
        · refine OkE.here g s' (.tup hq ?_)
          unfold cutU
          rw [rs.length, q.1, q.2, List.drop_zero, Nat.sub_zero, ← rs.length, List.take_length]
          exact rs
        · have st := Stp.new s' (o := .tup (cutV xs lo hi)) hz
          exact g (w'.new z _) (.ref z) rfl st (s'.new hz) (.tup (TqT.of upd_same) ((cut_rel lo hi rs).ext st.x s'))
    · rename_i x _ _
      cases q : listOf u w'.S with
      | none => rw [q] at hz; cases hz
      | some us =>
        rw [q] at hz
        cases hz
        obtain ⟨p, xs, rfl, hq, rs⟩ := listOf_ok s' r q
        refine .inr (.inr ⟨p, xs, rfl, hq, fun z hz => ?_⟩)
        have st := Stp.new s' (o := .lst (cutV xs lo hi)) hz
        exact g (w'.new z _) (.ref z) rfl st (s'.new hz) (.lst upd_same (fun q => s'.tracked q hz) ((cut_rel lo hi rs).ext st.x s'))
  · exact g.elim
def CallSim (X : Cx) (f : Value) (g : List U → Sto → R U) : Prop := ∃ r, CallR X f r ∧ (∀ us S, noX (g us S)) ∧
  ∀ (w : Wd) (us : List U) (vs : List V) (Q : VK), SR (KMof X) w → VRs (KMof X) w us vs → Pst (g us w.S) (OkE X w Q) (fun _ _ => False) → r vs w.H Q
def CallSimL (X : Cx) (f : Value) (g : List U → Sto → R (List U)) : Prop := ∃ r, CallR X f r ∧
  ∀ (w : Wd) (us : List U) (vs : List V) (Q : VK) (E : Exc → Sto → Prop), SR (KMof X) w → VRs (KMof X) w us vs → Pst (g us w.S) (OkL X w Q) E → r vs w.H Q
def fA {α : Type} (g : List U → Sto → R α) (fa : FA) : En → Sto → R α := fun d S => (fa d S).bind g
theorem cb_core {es : List Expr} {fa : FA} {ta : TA} {g : List U → Sto → R U} {r : List V → Hp → VK → Prop} (hn : ∀ us S, noX (g us S))
    (hg : ∀ (w : Wd) (us : List U) (vs : List V) (Q : VK), SR (KMof X) w → VRs (KMof X) w us vs → Pst (g us w.S) (OkE X w Q) (fun _ _ => False) → r vs w.H Q)
    (ha : ∀ (w : Wd) (d : En) (σ : L2.St) (Q : List V → Hp → Prop), SR (KMof X) w → ER (KMof X) w d σ → Pst (fa d w.S) (OkA X w Q) (XPost X Wx σ w) → ta σ w.H Q)
    (w : Wd) (d : En) (σ : L2.St) (Q : VK) (s : SR (KMof X) w) (e : ER (KMof X) w d σ) (h : Pst (fA g fa d w.S) (OkE X w Q) (XPost X Wx σ w)) : ta σ w.H fun vs H1 => r vs H1 Q := by
  refine ha w d σ _ s e ((Pst.of_bind h).mono (fun us S1 h1 w1 vs eS st s1 rs => ?_) fun _ _ q => q)
  subst eS
  exact hg w1 us vs Q s1 rs ((pst_noX h1 (hn us w1.S)).mono (fun _ _ q => q.up st) fun _ _ q => q)
theorem cb_coreL {es : List Expr} {fa : FA} {ta : TA} {g : List U → Sto → R (List U)} {r : List V → Hp → VK → Prop}
    (hg : ∀ (w : Wd) (us : List U) (vs : List V) (Q : VK) (E : Exc → Sto → Prop), SR (KMof X) w → VRs (KMof X) w us vs → Pst (g us w.S) (OkL X w Q) E → r vs w.H Q)
    (ha : ∀ (w : Wd) (d : En) (σ : L2.St) (Q : List V → Hp → Prop), SR (KMof X) w → ER (KMof X) w d σ → Pst (fa d w.S) (OkA X w Q) (XPost X Wx σ w) → ta σ w.H Q)
    (w : Wd) (d : En) (σ : L2.St) (Q : VK) (s : SR (KMof X) w) (e : ER (KMof X) w d σ) (h : Pst (fA g fa d w.S) (OkL X w Q) (XPost X Wx σ w)) : ta σ w.H fun vs H1 => r vs H1 Q := by
  refine ha w d σ _ s e ((Pst.of_bind h).mono (fun us S1 h1 w1 vs eS st s1 rs => ?_) fun _ _ q => q)
  subst eS
  exact hg w1 us vs Q _ s1 rs (h1.mono (fun _ _ q => q.up st) fun _ _ q => q)
variable {x : Str} {p pos apos cpos : Pos} {e o : Expr} {es : List Expr} {id T : String} {fa : FA} {fo : FE}
theorem se_callB {g : List U → Sto → R U} (hc : CallSim X (.builtin id) g) (hg : Gl X x) (hm : X.mg x = none) (hv : bootBuiltins x = some (.builtin id)) (ha : SimA X Wx (e :: es) fa) (hn : x ≠ "__name__" := by decide) (hdb : (x == ("__debug__" : Str)) = false := by decide)
    (he : starEach (e :: es) X.env = (false, eval e X.env) :: starEach es X.env := by rfl) (hpl : (backTo pos (starEach es X.env)).any (·.1) = false := by rfl) : SimE X Wx (.Call (.Name x p) (e :: es) [] pos) (fA g fa) := by
  obtain ⟨r, hc, hx, hr⟩ := hc
  obtain ⟨ta, pa, ha⟩ := ha.out
  exact SimE.mk (pe_callB hc hg hm hv pa hn hdb he hpl) (fun w d σ Q s e h => cb_core (es := es) hx hr ha w d σ Q s e h)
theorem se_callTy {g : List U → Sto → R U} (hc : CallSim X (.type T) g) (hg : Gl X x) (hm : X.mg x = none) (hv : bootBuiltins x = some (.type T)) (ha : SimA X Wx (e :: es) fa) (hn : x ≠ "__name__" := by decide) (hdb : (x == ("__debug__" : Str)) = false := by decide)
    (he : starEach (e :: es) X.env = (false, eval e X.env) :: starEach es X.env := by rfl) (hpl : (backTo pos (starEach es X.env)).any (·.1) = false := by rfl) : SimE X Wx (.Call (.Name x p) (e :: es) [] pos) (fA g fa) := by
  obtain ⟨r, hc, hx, hr⟩ := hc
  obtain ⟨ta, pa, ha⟩ := ha.out
  exact SimE.mk (pe_callTy hc hg hm hv pa hn hdb he hpl) (fun w d σ Q s e h => cb_core (es := es) hx hr ha w d σ Q s e h)
theorem sl_callB {g : List U → Sto → R (List U)} (hc : CallSimL X (.builtin id) g) (hg : Gl X x) (hm : X.mg x = none) (hv : bootBuiltins x = some (.builtin id)) (ha : SimA X Wx (e :: es) fa) (hn : x ≠ "__name__" := by decide) (hdb : (x == ("__debug__" : Str)) = false := by decide)
    (he : starEach (e :: es) X.env = (false, eval e X.env) :: starEach es X.env := by rfl) (hpl : (backTo pos (starEach es X.env)).any (·.1) = false := by rfl) : SimL X Wx (.Call (.Name x p) (e :: es) [] pos) (fA g fa) := by
  obtain ⟨r, hc, hr⟩ := hc
  obtain ⟨ta, pa, ha⟩ := ha.out
  exact SimL.mk (pe_callB hc hg hm hv pa hn hdb he hpl) (fun w d σ Q s e h => cb_coreL (es := es) hr ha w d σ Q s e h)
theorem sl_callTy {g : List U → Sto → R (List U)} (hc : CallSimL X (.type T) g) (hg : Gl X x) (hm : X.mg x = none) (hv : bootBuiltins x = some (.type T)) (ha : SimA X Wx (e :: es) fa) (hn : x ≠ "__name__" := by decide) (hdb : (x == ("__debug__" : Str)) = false := by decide)
    (he : starEach (e :: es) X.env = (false, eval e X.env) :: starEach es X.env := by rfl) (hpl : (backTo pos (starEach es X.env)).any (·.1) = false := by rfl) : SimL X Wx (.Call (.Name x p) (e :: es) [] pos) (fA g fa) := by
  obtain ⟨r, hc, hr⟩ := hc
  obtain ⟨ta, pa, ha⟩ := ha.out
  exact SimL.mk (pe_callTy hc hg hm hv pa hn hdb he hpl) (fun w d σ Q s e h => cb_coreL (es := es) hr ha w d σ Q s e h)
def tyU (T : String) (u : U) (S : Sto) : Bool := match u with
  | .str _ => T == "str"
  | .int _ => T == "int"
  | .lst _ => T == "list"
  | .frz _ => T == "list"
  | .dic _ _ => T == "dict"
  | .loc n => match S[n]? with
    | some (.lst _) => T == "list"
    | some (.dic _ _) => T == "dict"
    | _ => false
  | _ => false
theorem tyU_ok {w : Wd} {u : U} {v : V} {T : String} (s : SR (KMof X) w) (r : VR (KMof X) w u v) (h : tyU T u w.S = true) : tyV X.K T v w.H := by
  cases r with
  | str z => exact eq_of_beq h
  | int i => exact eq_of_beq h
  | lst hq n rs => exact .inl ⟨eq_of_beq h, _, SqL.of hq⟩
  | frz hq rs => exact .inl ⟨eq_of_beq h, _, hq.sq⟩
  | dic hq n l rs => exact .inr (.inr (.inl ⟨eq_of_beq h, .inl ⟨_, hq⟩⟩))
  | @loc n a hm =>
    unfold tyU at h
    dsimp only at h
    split at h
    · rename_i us hS
      obtain ⟨xs, q, rs⟩ := s.obj n a _ hm hS
      exact .inl ⟨eq_of_beq h, _, SqL.of q⟩
    · rename_i ks us hS
      obtain ⟨xs, q, l, rs⟩ := s.obj n a _ hm hS
      exact .inr (.inr (.inl ⟨eq_of_beq h, .inl ⟨_, q⟩⟩))
    · cases h
  | _ => cases h
def MtSim (X : Cx) (id : String) (g : U → List U → Sto → R U) : Prop := ∃ r, MtR X id r ∧ (∀ u us S, noX (g u us S)) ∧
  ∀ (w : Wd) (u : U) (us : List U) (v : V) (vs : List V) (Q : VK), SR (KMof X) w → VR (KMof X) w u v → VRs (KMof X) w us vs → Pst (g u us w.S) (OkE X w Q) (fun _ _ => False) → r v vs w.H Q
def fM (T : String) (g : U → List U → Sto → R U) (fo : FE) (fa : FA) : FE := fun d S => (fo d S).bind fun u S1 => guard (tyU T u S1) ((fa d S1).bind fun us S2 => g u us S2)
theorem se_bm {name : Str} {g : U → List U → Sto → R U} (pa : PlainAttrs T) (slot : Slot T name id) (hty : typeOf (.builtin id) = pure (.type "method_descriptor")) (hm : MtSim X id g) (ho : SimE X Wx o fo) (ha : SimA X Wx (e :: es) fa)
    (hbase : attributeBase o name X.env (eval o X.env) = eval o X.env := by rfl)
    (hfew : ((backTo cpos (starEach (e :: es) X.env)).all (fun x => !x.1) && (backToKw cpos (keywordEach [] X.env)).all (fun x => x.1.isSome)
      && decide ((e :: es).length + ([] : List Keyword).length + (if ([] : List Keyword).isEmpty then 0 else 1) < 30)) = true := by rfl)
    (hline : (apos.endLine == cpos.line) = true := by rfl) (hs : starEach (e :: es) X.env = (false, eval e X.env) :: starEach es X.env := by rfl) (hplain : (backTo cpos (starEach es X.env)).any (·.1) = false := by rfl) :
    SimE X Wx (.Call (.Attribute o name apos) (e :: es) [] cpos) (fM T g fo fa) := by
  obtain ⟨r, hm, hx, hr⟩ := hm
  obtain ⟨to, po, ho⟩ := ho.out
  obtain ⟨ta, pa', ha⟩ := ha.out
  refine SimE.mk (pe_bm pa slot hty hm po pa' hbase hfew hline hs hplain) (fun w d σ Q s e h => ?_)
  refine ho w d σ _ s e ((Pst.of_bind h).mono (fun u S1 h1 w1 v eS st s1 ru => ?_) fun _ _ q => q)
  subst eS
  obtain ⟨ht, h1⟩ := guard_post h1
  refine ⟨tyU_ok s1 ru ht, ?_⟩
  refine ha w1 d σ _ s1 (e.ext st.x s) ((Pst.of_bind h1).mono (fun us S2 h2 w2 vs eS st2 s2 rs => ?_) fun _ _ q => q.up st)
  subst eS
  exact hr w2 u us v vs Q s2 (ru.ext st2.x s1) rs ((pst_noX h2 (hx u us w2.S)).mono (fun _ _ q => q.up (st.trans st2)) fun _ _ q => q)
end
end DL
namespace DL
open PySem PySem.Spec L2
section
variable {X : Cx} {Wx : WX}
def lenU (u : U) (S : Sto) : Option Nat := match u with
  | .str z => if z.length ≤ sizeLine then some z.length else none
  | .tup us => some us.length
  | u => match listOf u S with
    | some us => some us.length
    | none => (dictOf u S).map fun p => p.1.length
def lenC (us : List U) (S : Sto) : R U := match us with
  | [u] => match lenU u S with
    | some n => .ok (.int n) S
    | none => .bad
  | _ => .bad
theorem zip_len {K : KM} {w : Wd} {ks : List Key} {us : List U} {xs : List V} (l : ks.length = us.length) (r : VRs K w us xs) : (ks.zip xs).length = ks.length := by
  rw [List.length_zip, ← r.length, ← l, Nat.min_self]
theorem cs_len : CallSim X (.builtin "len") lenC := by
  refine ⟨_, call_len.or call_lenD, fun us S => by unfold lenC; split <;> first | trivial | (split <;> trivial), fun w us vs Q s rs h => ?_⟩
  unfold lenC at h
  split at h
  · rename_i u
    cases rs with
    | cons r rs =>
      cases rs
      split at h
      · rename_i n hn
        have q := OkE.here h s (.int n)
        unfold lenU at hn
        split at hn
        · split at hn
          · rename_i hl
            cases hn; cases r
            exact .inl ⟨_, _, rfl, ⟨hl, rfl⟩, q⟩
          · cases hn
        · cases hn
          cases r with
          | tup hq rs => exact .inl ⟨_, _, rfl, .inr ⟨_, hq.sq, rs.length⟩, q⟩
        · split at hn
          · rename_i us hl
            cases hn
            obtain ⟨a, xs, rfl, hq, rs⟩ := listOf_ok s r hl
            exact .inl ⟨_, _, rfl, .inl ⟨_, hq, rs.length⟩, q⟩
          · cases hd : dictOf u w.S with
            | none => rw [hd] at hn; cases hn
            | some p =>
              obtain ⟨ks, us⟩ := p
              rw [hd] at hn
              cases hn
              obtain ⟨a, xs, rfl, hq, l, rs⟩ := dictOf_ok s r hd
              refine .inr ⟨a, _, rfl, hq, ?_⟩
              rw [zip_len l rs]
              exact q
      · exact h.elim
  · exact h.elim
def tyName (u : U) (S : Sto) : Option String := match u with
  | .non => some "NoneType"
  | .bl _ => some "bool"
  | .int _ => some "int"
  | .str _ => some "str"
  | .tup _ => some "tuple"
  | .lst _ => some "list"
  | .frz _ => some "list"
  | .dic _ _ => some "dict"
  | .loc n => match S[n]? with
    | some (.lst _) => some "list"
    | some (.dic _ _) => some "dict"
    | _ => none
  | .ty _ => none
  | .exc _ _ _ => none
  | .cl _ => none
theorem tyName_ok {w : Wd} {u : U} {v : V} {t : String} (s : SR (KMof X) w) (r : VR (KMof X) w u v) (h : tyName u w.S = some t) : TyX X.K w.H v (.type t) := by
  cases r with
  | non => cases h; exact .base .non
  | bl b => cases h; exact .base (.bl b)
  | int i => cases h; exact .base (.int i)
  | str x => cases h; exact .base (.str x)
  | tup hq rs =>
    cases h
    rcases hq with q | ⟨o, its, n, h1, h2, _⟩
    · exact .base (.tup q)
    · exact .kTuple h1 h2
  | lst hq n rs => cases h; exact .base (.lst hq)
  | frz hq rs =>
    cases h
    rcases hq with ⟨o, q⟩ | ⟨o, its, n, h1, h2, _⟩
    · exact .base (.frz q)
    · exact .kList h1 h2
  | dic hq n l rs => cases h; exact .base (.dK hq)
  | @loc n a hm =>
    unfold tyName at h
    dsimp only at h
    split at h
    · rename_i us hS
      cases h
      obtain ⟨xs, q, rs⟩ := s.obj n a _ hm hS
      exact .base (.lst q)
    · rename_i ks us hS
      cases h
      obtain ⟨xs, q, l, rs⟩ := s.obj n a _ hm hS
      exact .base (.dK q)
    · cases h
  | ty n => cases h
  | exc _ _ _ _ => cases h
  | cl _ => cases h
def isK (a b : String) : Bool := a == b || (a == "bool" && b == "int")
def kinds : List String := ["NoneType", "bool", "int", "str", "tuple", "list", "dict"]
def asked : List String := ["bool", "int", "str", "tuple", "list", "dict"]
theorem kit_all : (kinds.all fun a => asked.all fun b => decide (kitB a b = some (isK a b))) = true := by decide +kernel
theorem kit_isK {a b : String} (ha : a ∈ kinds) (hb : b ∈ asked) : kitB a b = some (isK a b) := by
  have h := List.all_eq_true.mp kit_all a ha
  exact of_decide_eq_true (List.all_eq_true.mp h b hb)
theorem tyName_kinds {u : U} {S : Sto} {t : String} (h : tyName u S = some t) : t ∈ kinds := by
  unfold tyName at h
  split at h
  all_goals first
    | (cases h; decide)
    | (split at h <;> first | (cases h; decide) | cases h)
    | cases h
def isiC (us : List U) (S : Sto) : R U := match us with
  | [u, .ty b] => match tyName u S with
    | some a => guard (asked.contains b) (.ok (.bl (isK a b)) S)
    | none => .bad
  | [u, .tup [.ty b, .ty c]] => match tyName u S with
    | some a => guard (asked.contains b && asked.contains c) (.ok (.bl (isK a b || isK a c)) S)
    | none => .bad
  | _ => .bad
theorem noX_isi (us : List U) (S : Sto) : noX (isiC us S) := by
  unfold isiC
  split
  · split <;> first | trivial | exact noX_guard trivial
  · split <;> first | trivial | exact noX_guard trivial
  · trivial
theorem cs_isi : CallSim X (.builtin "isinstance") isiC := by
  refine ⟨_, call_isi.or (call_isiT.or call_isiK), noX_isi, fun w us vs Q s rs h => ?_⟩
  unfold isiC at h
  split at h
  · rename_i u b
    split at h
    · rename_i a ha
      obtain ⟨hb, h⟩ := guard_post h
      have hb' : b ∈ asked := List.contains_iff_mem.mp hb
      cases rs with
      | cons r rs =>
        cases rs with
        | cons r2 rs =>
          cases rs
          cases r2
          exact .inl ⟨_, _, _, _, _, rfl, .ty b, tyName_ok s r ha, kit_ty (kit_isK (tyName_kinds ha) hb'), OkE.here h s (.bl _)⟩
    · exact h.elim
  · rename_i u b c
    split at h
    · rename_i a ha
      obtain ⟨hb, h⟩ := guard_post h
      rw [Bool.and_eq_true] at hb
      have hb' : b ∈ asked := List.contains_iff_mem.mp hb.1
      have hc' : c ∈ asked := List.contains_iff_mem.mp hb.2
      have hk := tyName_kinds ha
      have kk : ∀ K, PySem.W.kitAny K (.type a) [.type b, .type c] = some (isK a b || isK a c) := fun K => by
        refine kitAny_cons (kit_ty (kit_isK hk hb')) (fun e => ?_) (fun e => by rw [e]; rfl)
        rw [e, Bool.false_or]
        exact kitAny_cons (kit_ty (kit_isK hk hc')) (fun e => by rw [e]; exact kitAny_nil) (fun e => e)
      cases rs with
      | cons r rs =>
        cases rs with
        | cons r2 rs =>
          cases rs
          cases r2 with
          | @tup tp xs _ hq rs2 =>
            cases rs2 with
            | cons q1 rs2 =>
              cases rs2 with
              | cons q2 rs2 =>
                cases rs2
                cases q1
                cases q2
                rcases hq with q | ⟨o, its, n, h1, h2, h3, h4, h5⟩
                · exact .inr (.inl ⟨_, tp, _, _, _, _, rfl, q, .cons (.ty b) (.cons (.ty c) .nil), tyName_ok s r ha, kk _, OkE.here h s (.bl _)⟩)
                · obtain ⟨oc, od, dt, sl⟩ := o
                  simp only at h2 h3
                  subst h2 h3
                  have e5 : its.toList = [.type b, .type c] := ClsV.all (.cons (.ty b) (.cons (.ty c) .nil)) h5
                  have e6 : its = ([.type b, .type c] : List Value).toArray := by rw [← e5]
                  subst e6
                  exact .inr (.inr ⟨_, tp, od, _, n, sl, _, _, rfl, h1, tyName_ok s r ha, kk _, OkE.here h s (.bl _)⟩)
    · exact h.elim
  · exact h.elim
def minC (us : List U) (S : Sto) : R U := match us with
  | [.int i, .int j] => .ok (.int (if j < i then j else i)) S
  | _ => .bad
def intC (us : List U) (S : Sto) : R U := match us with
  | [.int i] => .ok (.int i) S
  | [.bl b] => .ok (.int (if b then 1 else 0)) S
  | _ => .bad
theorem cs_min (hc : X.calm = true) : CallSim X (.builtin "min") minC := by
  refine ⟨_, call_min2 hc, fun us S => by unfold minC; split <;> trivial, fun w us vs Q s rs h => ?_⟩
  unfold minC at h
  split at h
  · cases rs with
    | cons r rs =>
      cases rs with
      | cons r2 rs =>
        cases rs; cases r; cases r2
        exact ⟨_, _, rfl, OkE.here h s (.int _)⟩
  · exact h.elim
theorem cs_int : CallSim X (.type "int") intC := by
  refine ⟨_, call_int1, fun us S => by unfold intC; split <;> trivial, fun w us vs Q s rs h => ?_⟩
  unfold intC at h
  split at h
  · cases rs with
    | cons r rs => cases rs; cases r; exact .inl ⟨_, rfl, OkE.here h s (.int _)⟩
  · cases rs with
    | cons r rs => cases rs; cases r; exact .inr ⟨_, rfl, OkE.here h s (.int _)⟩
  · exact h.elim
def boolsOf : List U → Option (List Bool)
  | [] => some []
  | .bl b :: us => (boolsOf us).map (b :: ·)
  | _ => none
def strsOf : List U → Option (List Str)
  | [] => some []
  | .str i :: us => (strsOf us).map (i :: ·)
  | _ => none
theorem strsOf_ok {K : KM} {w : Wd} : ∀ {us : List U} {vs : List V} {bs : List Str}, VRs K w us vs → strsOf us = some bs → vs = bs.map V.str
  | _, _, _, .nil, h => by cases h; rfl
  | _, _, _, .cons (us := us) r rs, h => by
    cases r with
    | str b =>
      unfold strsOf at h
      cases e : strsOf us with
      | none => rw [e] at h; cases h
      | some bs => rw [e] at h; cases h; rw [strsOf_ok rs e]; rfl
    | _ => unfold strsOf at h; cases h
def overL {α : Type} (p : List U → Option α) (k : α → U) (us : List U) (S : Sto) : R U := match us with
  | [u] => match listOf u S with
    | some xs => match p xs with
      | some a => .ok (k a) S
      | none => .bad
    | none => .bad
  | _ => .bad
abbrev allC := overL boolsOf fun bs => .bl (bs.all id)
def seqOf (u : U) (S : Sto) : Option (List U) := match u with
  | .tup us => some us
  | u => listOf u S
theorem seqOf_ok {w : Wd} {u : U} {v : V} {us : List U} (s : SR (KMof X) w) (r : VR (KMof X) w u v) (h : seqOf u w.S = some us) : ∃ a xs, v = .ref a ∧ (SqL X.K w.H a xs ∨ SqT X.K w.H a xs) ∧ VRs (KMof X) w us xs := by
  unfold seqOf at h
  split at h
  · cases h
    cases r with
    | tup hq rs => exact ⟨_, _, rfl, .inr hq.sq, rs⟩
  · obtain ⟨a, xs, e, q, rs⟩ := listOf_ok s r h
    exact ⟨a, xs, e, .inl q, rs⟩
def listC (us : List U) (S : Sto) : R (List U) := match us with
  | [u] => match seqOf u S with
    | some xs => .ok xs S
    | none => .bad
  | _ => .bad
theorem cl_list : CallSimL X (.type "list") listC := by
  refine ⟨_, call_list_of, fun w us vs Q E s rs h => ?_⟩
  unfold listC at h
  split at h
  · cases rs with
    | cons r rs =>
      cases rs
      split at h
      · rename_i xs hl
        obtain ⟨a, ys, rfl, hq, q⟩ := seqOf_ok s r hl
        exact ⟨a, ys, rfl, hq, fun l hl => h w l ys rfl (Stp.refl w) s q hl⟩
      · exact h.elim
  · exact h.elim
def appM (u : U) (us : List U) (S : Sto) : R U := match u, us with
  | .loc n, [y] => match S[n]? with
    | some (.lst xs) => guard (decide (xs.length < sizeLine)) (.ok .non (S.set n (.lst (xs ++ [y]))))
    | _ => .bad
  | _, _ => .bad
theorem ms_append : MtSim X "list.append" appM := by
  refine ⟨_, mt_append, fun u us S => by unfold appM; split <;> first | trivial | (split <;> first | trivial | exact noX_guard trivial), fun w u us v vs Q s r rs h => ?_⟩
  unfold appM at h
  split at h
  · rename_i n y
    split at h
    · rename_i xs hS
      obtain ⟨hl, h⟩ := guard_post h
      cases r with
      | @loc _ a hm =>
        cases rs with
        | cons ry rs =>
          cases rs
          obtain ⟨ys, q, r2⟩ := s.obj n a _ hm hS
          rename_i vy
          refine ⟨a, ys, vy, rfl, rfl, q, by rw [← r2.length]; exact of_decide_eq_true hl, ?_⟩
          have st : Stp w (w.put n a (.lst (ys ++ [vy])) (.lst (xs ++ [y]))) := Stp.put s hm hS (by intro z; cases z)
          exact h _ .non rfl st (s.put hm hS (by intro z; cases z) ⟨_, upd_same, (r2.snoc ry).ext st.x s⟩) .non
    · exact h.elim
  · exact h.elim
def splitM (u : U) (us : List U) (S : Sto) : R U := match u, us with
  | .str a, [.str b] => guard (!(b.length == 0) && decide (a.length + 2 ≤ sizeLine)) (.ok (.lst ((Txt.split a b).map .str)) S)
  | _, _ => .bad
theorem strs_rel {K : KM} {w : Wd} : ∀ ys : List Str, VRs K w (ys.map .str) (ys.map V.str)
  | [] => .nil
  | y :: ys => .cons (.str y) (strs_rel ys)
theorem new_strs {w : Wd} {Q : VK} {ys : List Str} (s : SR (KMof X) w) (h : OkE X w Q (.lst (ys.map .str)) w.S) : rNewStrs ys w.H Q := fun p hp => by
  have st := Stp.new s (o := .lst (ys.map V.str)) hp
  exact h (w.new p _) (.ref p) rfl st (s.new hp) (.lst upd_same (fun q => s.tracked q hp) (strs_rel ys))
theorem ms_split : MtSim X "str.split" splitM := by
  refine ⟨_, mt_split, fun u us S => by unfold splitM; split <;> first | trivial | exact noX_guard trivial, fun w u us v vs Q s r rs h => ?_⟩
  unfold splitM at h
  split at h
  · obtain ⟨hl, h⟩ := guard_post h
    rw [Bool.and_eq_true, Bool.not_eq_true'] at hl
    cases r
    cases rs with
    | cons r2 rs =>
      cases rs; cases r2
      exact ⟨_, _, rfl, rfl, hl.1, of_decide_eq_true hl.2, new_strs s h⟩
  · exact h.elim
def joinM (u : U) (us : List U) (S : Sto) : R U := match u, us with
  | .str a, [l] => match seqOf l S with
    | some xs => match strsOf xs with
      | some ys => guard (decide ((ys.map (·.length)).sum + ys.length * a.length ≤ 16777216)) (.ok (.str (Txt.join a ys)) S)
      | none => .bad
    | none => .bad
  | _, _ => .bad
theorem ms_join : MtSim X "str.join" joinM := by
  refine ⟨_, mt_join, fun u us S => by unfold joinM; split <;> first | trivial | (split <;> first | trivial | (split <;> first | trivial | exact noX_guard trivial)), fun w u us v vs Q s r rs h => ?_⟩
  unfold joinM at h
  split at h
  · split at h
    · rename_i xs hx
      split at h
      · rename_i ys hy
        obtain ⟨hl, h⟩ := guard_post h
        cases r
        cases rs with
        | cons r2 rs =>
          cases rs
          obtain ⟨p, zs, rfl, hq, q⟩ := seqOf_ok s r2 hx
          have e := strsOf_ok q hy
          subst e
          exact ⟨_, p, ys, rfl, rfl, hq, of_decide_eq_true hl, OkE.here h s (.str _)⟩
      · exact h.elim
    · exact h.elim
  · exact h.elim
end
end DL
namespace DL
open PySem PySem.Spec L2
def spOf (K : KM) (n : Nat) (g : List U → Sto → R U) : Sp := fun vs H Q E => ∃ (w : Wd) (us : List U), w.H = H ∧ SR K w ∧ VRs K w us vs ∧ us.length = n ∧
  Pst (g us w.S) (fun u S' => ∀ (w' : Wd) (v : V), w'.S = S' → Stp w w' → SR K w' → VR K w' u v → Q v w'.H)
    (fun x S' => ∀ (w' : Wd) (cls : Value) (d : Option Addr), w'.S = S' → Stp w w' → SR K w' → XRel K w' x cls d → E cls d w'.H)
def endB (fl : Fl) (S : Sto) : R U := match fl with
  | .nx _ => .ok .non S
  | .rt u => .ok u S
  | .ex x _ => .exc x S
  | _ => .bad
def runB (body : FS) (d : En) (S : Sto) : R U := match body d S with
  | .ok fl S' => endB fl S'
  | _ => .bad
theorem fn_sim {P : Program} {w : World} {K : PySem.W.Frag} {mg : Str → Option Value} {base : Heap} {x qual : Str} {st : Stmt} {f : Addr} {fd : FuncData} {N ps : List Str} {k : Nat} {g : List U → Sto → R U} {body : FS}
    (F : Fun K x qual st f fd) (Sc : FnScope N ps (defScope st)) (hg : ∀ us S, us.length = ps.length → g us S = runB body (enStart N.length us) S)
    (hbody : ∀ (cdv : Value) (A : Around) (outer : List Env) (s : Shared) (H : Hp) (E : XK), Room k (A.deeper (PyProof.Rows.envOfC qual (defScope st) s.heap.objs.size f cdv)) →
      SimB (cxOf (L2.CX P w) P w K mg base N qual (defScope st) f cdv A outer s H E) (fun cls d _ H' => E cls d H') (defBody st) body) : FnOk P w K mg base (L2.CX P w) (k + 1) f fd ps (spOf ⟨K, mg, P, w⟩ ps.length g) := by
  refine F.okX Sc (fun vs H Q E h => ?_) fun cdv A outer s H vs Q E hr h => ?_
  · obtain ⟨w, us, _, _, rs, l, _⟩ := h
    rw [← rs.length, l]
  · obtain ⟨w, us, e, sr, rs, l, q⟩ := h
    subst e
    obtain ⟨t, p, hb⟩ := (hbody cdv A outer s w.H E hr).out
    refine ⟨t, p, hb w (enStart N.length us) (start N vs) _ sr (ER.start rs) ?_⟩
    rw [hg us w.S l] at q
    unfold runB at q
    cases hh : body (enStart N.length us) w.S with
    | ok fl S1 =>
      rw [hh] at q
      intro w1 eS st s1
      cases fl with
      | nx d => exact fun σ' _ => q w1 .non eS st s1 .non
      | rt u => exact fun v r => q w1 v eS st s1 r
      | bk d => exact q.elim
      | ct d => exact q.elim
      | ex x d => exact fun σ' _ cls dd xr => q w1 cls dd eS st s1 xr
    | bad => rw [hh] at q; exact q.elim
    | exc y S => rw [hh] at q; exact q.elim
section
variable {X : Cx} {Wx : WX}
abbrev PasX (X : Cx) (Wx : WX) : Prop := ∀ σ, PassesAt (L2.CX X.prog X.w) X σ (fun c d H => Wx c d σ H)
theorem pas_of (tk : Takes X Wx) : PasX X Wx := fun σ => passAt tk σ
theorem pas_none : PasX X (fun _ _ _ _ => False) := fun σ => passAt takes0 σ
theorem call_core {n k : Nat} {f : Addr} {fd : FuncData} {ps : List Str} {g : List U → Sto → R U} {fa : FA} {ta : TA}
    (ha : ∀ (w : Wd) (d : En) (σ : L2.St) (Q : List V → Hp → Prop), SR (KMof X) w → ER (KMof X) w d σ → Pst (fa d w.S) (OkA X w Q) (XPost X Wx σ w) → ta σ w.H Q)
    (w : Wd) (d : En) (σ : L2.St) (Q : VK) (s : SR (KMof X) w) (e : ER (KMof X) w d σ) (h : Pst (fA (fun us S => guard (us.length == n) (g us S)) fa d w.S) (OkE X w Q) (XPost X Wx σ w)) :
    tCallSD (spOf (KMof X) n g) [] (fun σ c d H => Wx c d σ H) ta σ w.H Q := by
  refine ha w d σ _ s e ((Pst.of_bind h).mono (fun us S1 h1 w1 vs eS st s1 rs => ?_) fun _ _ q => q)
  subst eS
  obtain ⟨hl, h1⟩ := guard_post h1
  rw [List.append_nil]
  exact ⟨w1, us, rfl, s1, rs, eq_of_beq hl, h1.mono (fun u S2 q w2 v e2 st2 s2 r2 => q w2 v e2 (st.trans st2) s2 r2) fun x S2 q w2 cls dd e2 st2 s2 xr => q w2 cls dd e2 (st.trans st2) s2 xr⟩
def fCall (n : Nat) (g : List U → Sto → R U) (fa : FA) : FE := fA (fun us S => guard (us.length == n) (g us S)) fa
theorem se_call {k : Nat} {f : Addr} {fd : FuncData} {ps : List Str} {n : Nat} {g : List U → Sto → R U} {x : Str} {p pos : Pos} {e : Expr} {es : List Expr} {fa : FA}
    (F : FnOk X.prog X.w X.K X.mg X.base (L2.CX X.prog X.w) k f fd ps (spOf (KMof X) n g)) (hr : Room k X.A) (hx : PasX X Wx) (hg : Gl X x) (hm : X.mg x = some (.ref f)) (hk : PySem.W.keepIn X.K (.ref f) = true) (hb : Binds X.K fd ps []) (ha : SimA X Wx (e :: es) fa)
    (hdb : (x == ("__debug__" : Str)) = false := by decide) (he : starEach (e :: es) X.env = (false, eval e X.env) :: starEach es X.env := by rfl) (hpl : (backTo pos (starEach es X.env)).any (·.1) = false := by rfl) :
    SimE X Wx (.Call (.Name x p) (e :: es) [] pos) (fCall n g fa) := by
  obtain ⟨ta, pa, ha⟩ := ha.out
  exact SimE.mk (pe_callSD F hr hg hm hk hb .nil hx pa hdb he hpl) (fun w d σ Q s e h => call_core (k := k) (f := f) (fd := fd) (ps := ps) ha w d σ Q s e h)
def toS {α : Type} (d : En) (r : R α) (k : α → Sto → R Fl) : R Fl := match r with
  | .ok a S => k a S
  | .exc x S => .ok (.ex x d) S
  | .bad => .bad
theorem toS_post {α : Type} {w : Wd} {d : En} {σ : L2.St} {D : Ends} {r : R α} {k : α → Sto → R Fl} (s : SR (KMof X) w) (e : ER (KMof X) w d σ) (h : Pst (toS d r k) (OkS X Wx w D) (fun _ _ => False)) :
    Pst r (fun a S => Pst (k a S) (OkS X Wx w D) (fun _ _ => False)) (XPost X Wx σ w) := by
  cases r with
  | ok a S => exact h
  | exc x S => exact fun w' cls dd eS st s' xr => h w' eS st s' σ (e.ext st.x s) cls dd xr
  | bad => exact h
variable {e : Expr} {st : Stmt} {rest : List Stmt} {pos : Pos}
def fNop : FS := fun d S => .ok (.nx d) S
def fExpr (f : FE) : FS := fun d S => toS d (f d S) fun _ S1 => .ok (.nx d) S1
def fRet (f : FE) : FS := fun d S => toS d (f d S) fun u S1 => .ok (.rt u) S1
def fRetN : FS := fun _ S => .ok (.rt .non) S
def fBrk : FS := fun d S => .ok (.bk d) S
def fCt : FS := fun d S => .ok (.ct d) S
theorem ss_expr {f : FE} (he : SimE X Wx e f) (hs : swapsWith e none pos.line X.env = pure false := by rfl) : SimS X Wx (.Expr e pos) (fExpr f) := by
  obtain ⟨t, p, he⟩ := he.out
  refine SimS.mk (ps_expr p hs) (fun w d σ D s e h => ?_)
  exact he w d σ _ s e ((toS_post s e h).mono (fun u S1 h1 w1 v eS st s1 r => h1 w1 eS st s1 σ (e.ext st.x s)) fun _ _ q => q)
theorem ss_ret {f : FE} (he : SimE X Wx e f) : SimS X Wx (.Return (some e) pos) (fRet f) := by
  obtain ⟨t, p, he⟩ := he.out
  refine SimS.mk (ps_ret p) (fun w d σ D s e h => ?_)
  exact he w d σ _ s e ((toS_post s e h).mono (fun u S1 h1 w1 v eS st s1 r => h1 w1 eS st s1 v r) fun _ _ q => q)
def fSet (i : Nat) (f : FE) : FS := fun d S => toS d (f d S) fun u S1 => .ok (.nx (d.set i (some u))) S1
theorem ss_set (i : Nat) {x : Str} {f : FE} {pos' : Pos} (hN : X.N.Nodup) (hi : X.N[i]? = some x) (hx : Loc X.env.scope x) (he : SimE X Wx e f) (hs : swapsWith e (some (.Name x pos')) pos.line X.env = pure false := by rfl)
    (hf : X.fn x = true ∨ X.env.scope.names.lookup x = some .local := by first | exact .inl rfl | exact .inr rfl | assumption) : SimS X Wx (.Assign [.Name x pos'] e pos) (fSet i f) := by
  obtain ⟨t, p, he⟩ := he.out
  refine SimS.mk (ps_set hN hi hx p hs hf) (fun w d σ D s e h => ?_)
  exact he w d σ _ s e ((toS_post s e h).mono (fun u S1 h1 w1 v eS st s1 r => h1 w1 eS st s1 _ ((e.ext st.x s).set i r)) fun _ _ q => q)
def Keeps (is : List Nat) (σ σ' : L2.St) : Prop := ∀ vs : List Nat, (∀ i ∈ is, i ∈ vs) → wipe σ' vs = wipe σ vs
def tG (X : Cx) (is : List Nat) (g : U → En → Option En) : TG := fun v σ H Q => ∃ (w : Wd) (u : U) (d d' : En), w.H = H ∧ SR (KMof X) w ∧ ER (KMof X) w d σ ∧ VR (KMof X) w u v ∧ g u d = some d' ∧ ∀ σ', ER (KMof X) w d' σ' → Keeps is σ σ' → Q σ' w.H
def tGs (X : Cx) (is : List Nat) (g : List U → En → Option En) : TGs := fun vs σ H Q => ∃ (w : Wd) (us : List U) (d d' : En), w.H = H ∧ SR (KMof X) w ∧ ER (KMof X) w d σ ∧ VRs (KMof X) w us vs ∧ g us d = some d' ∧ ∀ σ', ER (KMof X) w d' σ' → Keeps is σ σ' → Q σ' w.H
def SimG (X : Cx) (tg : Expr) (is : List Nat) (g : U → En → Option En) : Prop := PG X tg (tG X is g)
def SimGs (X : Cx) (tgs : List Expr) (is : List Nat) (g : List U → En → Option En) : Prop := PGs X tgs (tGs X is g)
theorem SimG.out {tg : Expr} {is : List Nat} {g : U → En → Option En} (h : SimG X tg is g) : ∃ t, PG X tg t ∧ ∀ (w : Wd) (u : U) (v : V) (d d' : En) (σ : L2.St) (Q : L2.St → Hp → Prop), SR (KMof X) w → ER (KMof X) w d σ → VR (KMof X) w u v → g u d = some d' → (∀ σ', ER (KMof X) w d' σ' → Keeps is σ σ' → Q σ' w.H) → t v σ w.H Q :=
  ⟨_, h, fun w u v d d' σ Q s e r h q => ⟨w, u, d, d', rfl, s, e, r, h, q⟩⟩
theorem SimG.mk {tg : Expr} {is : List Nat} {g : U → En → Option En} {t : TG} (p : PG X tg t) (h : ∀ (w : Wd) (u : U) (v : V) (d d' : En) (σ : L2.St) (Q : L2.St → Hp → Prop), SR (KMof X) w → ER (KMof X) w d σ → VR (KMof X) w u v → g u d = some d' → (∀ σ', ER (KMof X) w d' σ' → Keeps is σ σ' → Q σ' w.H) → t v σ w.H Q) : SimG X tg is g :=
  ⟨fun pins s σ H v u Q I r ⟨w, y, d, d', e, sr, er, vr, hg, q⟩ => p.run pins s σ H v u Q I r (by subst e; exact h w y v d d' σ Q sr er vr hg q)⟩
theorem SimGs.out {tgs : List Expr} {is : List Nat} {g : List U → En → Option En} (h : SimGs X tgs is g) : ∃ t, PGs X tgs t ∧ ∀ (w : Wd) (us : List U) (vs : List V) (d d' : En) (σ : L2.St) (Q : L2.St → Hp → Prop), SR (KMof X) w → ER (KMof X) w d σ → VRs (KMof X) w us vs → g us d = some d' → (∀ σ', ER (KMof X) w d' σ' → Keeps is σ σ' → Q σ' w.H) → t vs σ w.H Q :=
  ⟨_, h, fun w u v d d' σ Q s e r h q => ⟨w, u, d, d', rfl, s, e, r, h, q⟩⟩
theorem SimGs.mk {tgs : List Expr} {is : List Nat} {g : List U → En → Option En} {t : TGs} (p : PGs X tgs t) (h : ∀ (w : Wd) (us : List U) (vs : List V) (d d' : En) (σ : L2.St) (Q : L2.St → Hp → Prop), SR (KMof X) w → ER (KMof X) w d σ → VRs (KMof X) w us vs → g us d = some d' → (∀ σ', ER (KMof X) w d' σ' → Keeps is σ σ' → Q σ' w.H) → t vs σ w.H Q) : SimGs X tgs is g :=
  ⟨fun pins s σ H vs us Q I r ⟨w, y, d, d', e, sr, er, vr, hg, q⟩ => p.run pins s σ H vs us Q I r (by subst e; exact h w y vs d d' σ Q sr er vr hg q)⟩
theorem wipe_get (σ : L2.St) : ∀ (vs : List Nat) (j : Nat), (wipe σ vs)[j]? = if j ∈ vs then (if j < σ.length then some none else none) else σ[j]?
  | [], j => by simp [wipe]
  | v :: vs, j => by
    unfold wipe
    by_cases e : v = j
    · subst e
      by_cases hl : v < σ.length
      · rw [List.getElem?_set_self (by rw [wipe_length]; exact hl)]; simp [hl]
      · rw [List.getElem?_eq_none (by rw [List.length_set, wipe_length]; omega)]; simp [hl]
    · rw [List.getElem?_set_ne e, wipe_get σ vs j]
      have : (j ∈ v :: vs) ↔ j ∈ vs := by simp [Ne.symm e]
      simp only [this]
theorem keeps_set {σ : L2.St} (i : Nat) (o : Option V) : Keeps [i] σ (σ.set i o) := fun vs h => by
  refine List.ext_getElem? fun j => ?_
  rw [wipe_get, wipe_get, List.length_set]
  by_cases hj : j ∈ vs
  · rw [if_pos hj, if_pos hj]
  · rw [if_neg hj, if_neg hj, List.getElem?_set_ne fun e => hj (by rw [← e]; exact h i (by simp))]
theorem Keeps.refl (σ : L2.St) : Keeps [] σ σ := fun _ _ => rfl
theorem Keeps.trans {is js : List Nat} {σ σ1 σ2 : L2.St} (a : Keeps is σ σ1) (b : Keeps js σ1 σ2) : Keeps (is ++ js) σ σ2 := fun vs h =>
  (b vs fun i hi => h i (List.mem_append_right _ hi)).trans (a vs fun i hi => h i (List.mem_append_left _ hi))
def gN (i : Nat) (u : U) (d : En) : Option En := some (d.set i (some u))
def gNil (us : List U) (d : En) : Option En := match us with
  | [] => some d
  | _ => none
def gCons (g : U → En → Option En) (r : List U → En → Option En) (us : List U) (d : En) : Option En := match us with
  | u :: us => (g u d).bind (r us)
  | [] => none
def gTup (n : Nat) (r : List U → En → Option En) (u : U) (d : En) : Option En := match u with
  | .tup us => if us.length = n then r us d else none
  | _ => none
theorem sg_name (i : Nat) {x : Str} (hN : X.N.Nodup) (hi : X.N[i]? = some x) (hx : Loc X.env.scope x) (hf : X.fn x = true ∨ X.env.scope.names.lookup x = some .local := by first | exact .inl rfl | exact .inr rfl | assumption) : SimG X (.Name x pos) [i] (gN i) :=
  SimG.mk (pg_name hN hi hx hf) fun w u v d d' σ Q s e r h q => by cases h; exact q _ (e.set i r) (keeps_set i _)
theorem sg_nil : SimGs X [] [] gNil := SimGs.mk pgs_nil fun w us vs d d' σ Q s e r h q => by
  cases r with
  | nil => cases h; exact ⟨rfl, q σ e (Keeps.refl σ)⟩
  | cons _ _ => cases h
theorem sg_cons {es : List Expr} {is js : List Nat} {g : U → En → Option En} {r : List U → En → Option En} (h1 : SimG X e is g) (h2 : SimGs X es js r) (hs : (assignEach (e :: es) X.env).map (·.2) = assign e X.env :: (assignEach es X.env).map (·.2) := by rfl) : SimGs X (e :: es) (is ++ js) (gCons g r) := by
  obtain ⟨t, p, h1⟩ := h1.out
  obtain ⟨u, q, h2⟩ := h2.out
  refine SimGs.mk (pgs_cons p q hs) fun w us vs d d' σ Q s e rs h k => ?_
  cases rs with
  | nil => cases h
  | @cons y ys v vs ry rys =>
    unfold gCons at h
    dsimp only at h
    cases h3 : g y d with
    | none => rw [h3] at h; cases h
    | some d1 =>
      rw [h3] at h
      exact ⟨v, vs, rfl, h1 w y v d d1 σ _ s e ry h3 fun σ1 e1 k1 => h2 w ys vs d1 d' σ1 Q s e1 rys h fun σ2 e2 k2 => k σ2 e2 (k1.trans k2)⟩
theorem sg_tup {es : List Expr} {k : Nat} {n : Nat} {is : List Nat} {r : List U → En → Option En} (hc : X.calm = true) (h : SimGs X es is r)
    (hn : (assignEach es X.env).length = n := by rfl) (hst : (assignEach es X.env).findIdx? (·.1) = none := by rfl) : SimG X (.Tuple es k pos) is (gTup n r) := by
  obtain ⟨t, p, h⟩ := h.out
  refine SimG.mk (pg_tup hc p hn hst) fun w u v d d' σ Q s e rv hg q => ?_
  unfold gTup at hg
  split at hg
  · split at hg
    · rename_i us hl
      cases rv with
      | tup hq rs => exact ⟨_, _, rfl, hq.sq, by rw [← rs.length]; exact hl, h w us _ d d' σ Q s e rs hg q⟩
    · cases hg
  · cases hg
def fAsg (g : U → En → Option En) (f : FE) : FS := fun d S => toS d (f d S) fun u S1 => match g u d with
  | some d' => .ok (.nx d') S1
  | none => .bad
theorem ss_asg {tg : Expr} {f : FE} {is : List Nat} {g : U → En → Option En} (he : SimE X Wx e f) (hg : SimG X tg is g) (hs : swapsWithSole [tg] e pos.line X.env = pure false := by rfl) (hw : swappedStores [tg] e X.env = pure none := by rfl)
    (h1 : (assignEach [tg] X.env).map (·.2) = [assign tg X.env] := by rfl) : SimS X Wx (.Assign [tg] e pos) (fAsg g f) := by
  obtain ⟨t, p, he⟩ := he.out
  obtain ⟨u, q, hg⟩ := hg.out
  refine SimS.mk (ps_asg p q hs hw h1) (fun w d σ D s e h => ?_)
  refine he w d σ _ s e ((toS_post s e h).mono (fun y S1 k1 w1 v eS st s1 r => ?_) fun _ _ q => q)
  split at k1
  · rename_i d' hd
    exact hg w1 y v d d' σ D.nx s1 (e.ext st.x s) r hd fun σ' e' _ => k1 w1 eS st s1 σ' e'
  · exact k1.elim
def fSeq (f g : FS) : FS := fun d S => match f d S with
  | .ok (.nx d1) S1 => g d1 S1
  | r => r
theorem sb_nil : SimB X Wx [] fNop := SimB.mk pss_nil (fun w d σ D s e h => h w rfl (Stp.refl w) s σ e)
theorem sb_one {f : FS} (h : SimS X Wx st f) : SimB X Wx [st] f := by
  obtain ⟨t, p, h⟩ := h.out
  exact SimB.mk (pss_one p) h
theorem sb_cons {f g : FS} (h1 : SimS X Wx st f) (h2 : SimB X Wx rest g) : SimB X Wx (st :: rest) (fSeq f g) := by
  obtain ⟨t, p, h1⟩ := h1.out
  obtain ⟨u, q, h2⟩ := h2.out
  refine SimB.mk (pss_cons p q) (fun w d σ D s e h => h1 w d σ _ s e ?_)
  unfold fSeq at h
  cases hf : f d w.S with
  | ok fl S1 =>
    rw [hf] at h
    cases fl with
    | nx d1 =>
      intro w1 eS st s1 σ1 e1
      subst eS
      exact h2 w1 d1 σ1 D s1 e1 (Pst.mono h (fun _ _ q => q.up st) fun _ _ q => q)
    | rt u => exact h
    | bk d1 => exact h
    | ct d1 => exact h
    | ex x d1 => exact h
  | exc x S => rw [hf] at h; exact h
  | bad => rw [hf] at h; exact h
def fIfS (c : FT) (f g : FS) : FS := fun d S => toS d (c d S) fun b S1 => if b then f d S1 else g d S1
theorem ss_if {c : Expr} {a b : List Stmt} {fc : FT} {f g : FS} (hc : SimT X Wx c fc) (ha : SimB X Wx a f) (hb : SimB X Wx b g) : SimS X Wx (.If c a b pos) (fIfS fc f g) := by
  obtain ⟨tc, pc, hc⟩ := hc.out
  obtain ⟨ta, pa, ha⟩ := ha.out
  obtain ⟨tb, pb, hb⟩ := hb.out
  refine SimS.mk (ps_if pc pa pb) (fun w d σ D s e h => ?_)
  refine hc w d σ _ s e ((toS_post s e h).mono (fun k S1 h1 w1 eS st s1 => ?_) fun _ _ q => q)
  subst eS
  cases k with
  | true => exact ha w1 d σ D s1 (e.ext st.x s) (Pst.mono h1 (fun _ _ q => q.up st) fun _ _ q => q)
  | false => exact hb w1 d σ D s1 (e.ext st.x s) (Pst.mono h1 (fun _ _ q => q.up st) fun _ _ q => q)
def ItSim (K : KM) (w : Wd) (J : It) (us : List U) : Prop := ∀ (w' : Wd) (i : Nat), Ext w w' → SR K w' →
  (∀ u, us[i]? = some u → J.go i w'.H ∧ ∀ x H', J.yld i w'.H x H' → ∃ w'' : Wd, w''.H = H' ∧ w''.S = w'.S ∧ Stp w' w'' ∧ SR K w'' ∧ VR K w'' u x) ∧ (us.length ≤ i → J.stop i w'.H)
def OkI (X : Cx) (w : Wd) (Q : It → Hp → Prop) (us : List U) (S' : Sto) : Prop := ∀ (w' : Wd) (J : It), w'.S = S' → Stp w w' → SR (KMof X) w' → ItSim (KMof X) w' J us → Q J w'.H
def SimI (X : Cx) (Wx : WX) (tg iter : Expr) (f : FA) : Prop := ∃ t, PI X tg iter t ∧ ∀ (w : Wd) (d : En) (σ : L2.St) (Q : It → Hp → Prop), SR (KMof X) w → ER (KMof X) w d σ → Pst (f d w.S) (OkI X w Q) (XPost X Wx σ w) → t σ w.H Q
theorem ItSim.same {K : KM} {w : Wd} {J : It} {us : List U} (h : ∀ (w' : Wd) (i : Nat), Ext w w' → SR K w' → (∀ u, us[i]? = some u → J.go i w'.H ∧ ∀ x H', J.yld i w'.H x H' → H' = w'.H ∧ VR K w' u x) ∧ (us.length ≤ i → J.stop i w'.H)) : ItSim K w J us := fun w' i x s => by
  obtain ⟨h1, h2⟩ := h w' i x s
  refine ⟨fun u hu => ?_, h2⟩
  obtain ⟨h3, h4⟩ := h1 u hu
  refine ⟨h3, fun y H' q => ?_⟩
  obtain ⟨e, r⟩ := h4 y H' q
  exact ⟨w', e.symm, rfl, Stp.refl w', s, r⟩
variable {tg iter : Expr}
def aOver (p : U → Option (List U)) (f : FE) : FA := fun d S => (f d S).bind fun u S1 => match p u with
  | some us => .ok us S1
  | none => .bad
def lstV : U → Option (List U)
  | .lst us => some us
  | .frz us => some us
  | _ => none
def tupV : U → Option (List U)
  | .tup us => some us
  | _ => none
def strV : U → Option (List U)
  | .str z => some (z.cps.toList.map fun c => .str ⟨#[c]⟩)
  | _ => none
theorem lstV_ok {K : KM} {w : Wd} {u : U} {v : V} {us : List U} (r : VR K w u v) (h : lstV u = some us) : ∃ a, v = .ref a ∧ ∀ w', Ext w w' → SR K w → ∃ xs, SqL K w'.H a xs ∧ VRs K w' us xs := by
  cases r with
  | @lst a xs _ hq n rs => cases h; exact ⟨a, rfl, fun w' x s => ⟨xs, SqL.of (x.keep _ _ hq n), rs.ext x s⟩⟩
  | @frz a xs _ hq rs => cases h; exact ⟨a, rfl, fun w' x s => ⟨xs, (x.fz s hq).sq, rs.ext x s⟩⟩
  | _ => cases h
theorem si_list {f : FE} (h : SimE X Wx iter f) : SimI X Wx tg iter (aOver lstV f) := by
  obtain ⟨t, p, h⟩ := h.out
  refine ⟨_, pi_list p, fun w d σ Q s e h0 => ?_⟩
  refine h w d σ _ s e ((Pst.of_bind h0).mono (fun u S1 h1 w1 v eS st s1 r => ?_) fun _ _ q => q)
  split at h1
  · rename_i us hu
    obtain ⟨a, rfl, hk⟩ := lstV_ok r hu
    obtain ⟨xs, hq, rs⟩ := hk w1 (Ext.refl w1) s1
    refine ⟨a, rfl, ⟨xs, hq⟩, h1 w1 _ eS st s1 (ItSim.same fun w' i x s' => ?_)⟩
    obtain ⟨ys, hq', rs'⟩ := hk w' x s1
    refine ⟨fun u hi => ?_, fun hi => ⟨ys, hq', by rw [← rs'.length]; exact hi⟩⟩
    obtain ⟨y, hy, ry⟩ := rs'.get hi
    refine ⟨⟨ys, y, hq', hy⟩, fun z H' q => ⟨q.1, ?_⟩⟩
    have e2 := q.2 ys hq'
    rw [hy] at e2
    cases e2
    exact ry
  · exact h1.elim
theorem si_tup {f : FE} (h : SimE X Wx iter f) : SimI X Wx tg iter (aOver tupV f) := by
  obtain ⟨t, p, h⟩ := h.out
  refine ⟨_, pi_tup p, fun w d σ Q s e h0 => ?_⟩
  refine h w d σ _ s e ((Pst.of_bind h0).mono (fun u S1 h1 w1 v eS st s1 r => ?_) fun _ _ q => q)
  cases r with
  | @tup a xs us hq rs =>
    refine ⟨a, rfl, ⟨xs, hq.sq⟩, h1 w1 _ eS st s1 (ItSim.same fun w' i x s' => ?_)⟩
    have hq' := (x.sqT s1 hq).sq
    have rs' := rs.ext x s1
    refine ⟨fun u hi => ?_, fun hi => ⟨xs, hq', by rw [← rs'.length]; exact hi⟩⟩
    obtain ⟨y, hy, ry⟩ := rs'.get hi
    refine ⟨⟨xs, y, hq', hy⟩, fun z H' q => ⟨q.1, ?_⟩⟩
    have e2 := q.2 xs hq'
    rw [hy] at e2
    cases e2
    exact ry
  | _ => exact h1.elim
theorem si_str {f : FE} (h : SimE X Wx iter f) : SimI X Wx tg iter (aOver strV f) := by
  obtain ⟨t, p, h⟩ := h.out
  refine ⟨_, pi_str p, fun w d σ Q s e h0 => ?_⟩
  refine h w d σ _ s e ((Pst.of_bind h0).mono (fun u S1 h1 w1 v eS st s1 r => ?_) fun _ _ q => q)
  cases r with
  | str z =>
    refine ⟨z, rfl, h1 w1 _ eS st s1 (ItSim.same fun w' i x s' => ?_)⟩
    refine ⟨fun u hi => ?_, fun hi => ?_⟩
    · rw [List.getElem?_map] at hi
      cases hc : z.cps.toList[i]? with
      | none => rw [hc] at hi; cases hi
      | some c =>
        rw [hc] at hi
        cases hi
        have hlt : i < z.cps.size := by
          have := (List.getElem?_eq_some_iff.mp hc).1
          simpa using this
        refine ⟨hlt, fun y H' q => ?_⟩
        obtain ⟨e1, c', e2, e3⟩ := q
        refine ⟨e1, ?_⟩
        have e4 : z.cps[i]? = some c := by rw [← Array.getElem?_toList]; exact hc
        rw [e4] at e2
        cases e2
        rw [e3]
        exact .str _
    · show z.cps.size ≤ i
      simpa using hi
  | _ => exact h1.elim
def rngU (lo c : Int) (n : Nat) : List U := (List.range n).map fun (i : Nat) => U.int (lo + (i : Int) * c)
def aRng1 (fa : FA) : FA := fun d S => (fa d S).bind fun us S1 => match us with
  | [.int j] => guard (decide (-(2 ^ 62) ≤ j) && decide (j < 2 ^ 62)) (.ok (rngU 0 1 j.toNat) S1)
  | _ => .bad
theorem rng_get {lo c : Int} {n i : Nat} {u : U} (h : (rngU lo c n)[i]? = some u) : i < n ∧ u = .int (lo + (i : Int) * c) := by
  unfold rngU at h
  rw [List.getElem?_map] at h
  cases hr : (List.range n)[i]? with
  | none => rw [hr] at h; cases h
  | some k =>
    rw [hr] at h
    cases h
    obtain ⟨h1, h2⟩ := List.getElem?_eq_some_iff.mp hr
    rw [List.getElem_range] at h2
    subst h2
    exact ⟨by simpa using h1, rfl⟩
theorem it_range {K : KM} {w : Wd} (lo : Int) (n : Nat) : ItSim K w (Itr lo n) (rngU lo 1 n) := ItSim.same fun w' i x s => by
  refine ⟨fun u hu => ?_, fun h => (show n ≤ i by simpa [rngU] using h)⟩
  obtain ⟨h1, rfl⟩ := rng_get hu
  refine ⟨h1, fun y H' q => ⟨q.1, ?_⟩⟩
  rw [q.2, Int.mul_one]
  exact .int _
theorem si_range1 {a : Expr} {fa : FA} {p pos : Pos} (hg : Gl X "range") (hm : X.mg "range" = none) (ha : SimA X Wx [a] fa) (hs : starEach [a] X.env = [(false, eval a X.env)] := by rfl) : SimI X Wx tg (.Call (.Name "range" p) [a] [] pos) (aRng1 fa) := by
  obtain ⟨t, p, ha⟩ := ha.out
  refine ⟨_, pi_range1 hg hm p hs, fun w d σ Q s e h0 => ?_⟩
  refine ha w d σ _ s e ((Pst.of_bind h0).mono (fun us S1 h1 w1 vs eS st s1 rs => ?_) fun _ _ q => q)
  split at h1
  · obtain ⟨hl, h1⟩ := guard_post h1
    rw [Bool.and_eq_true] at hl
    cases rs with
    | cons r rs =>
      cases rs; cases r
      exact ⟨_, rfl, of_decide_eq_true hl.1, of_decide_eq_true hl.2, h1 w1 _ eS st s1 (it_range 0 _)⟩
  · exact h1.elim
end
end DL
namespace DL
open PySem PySem.Spec L2
section
variable {X : Cx} {Wx : WX} {pos : Pos} {tg iter elt c : Expr} {body : List Stmt}
def loopF (g : U → En → Option En) (f : FS) : List U → FS
  | [], d, S => .ok (.nx d) S
  | u :: us, d, S => match g u d with
    | none => .bad
    | some d1 => match f d1 S with
      | .ok (.nx d2) S1 => loopF g f us d2 S1
      | .ok (.ct d2) S1 => loopF g f us d2 S1
      | .ok (.bk d2) S1 => .ok (.nx d2) S1
      | r => r
def fFor (fi : FA) (g : U → En → Option En) (f : FS) : FS := fun d S => toS d (fi d S) fun us S1 => loopF g f us d S1
theorem drop_at {us : List U} {i : Nat} (h : i < us.length) : us.drop i = us[i] :: us.drop (i + 1) := List.drop_eq_getElem_cons h
theorem ss_for {fi : FA} {is : List Nat} {g : U → En → Option En} {f : FS} (hp : PassesOwn (model X.prog X.w) X.A X.env X.xe) (hc : X.calm = true) (hi : SimI X Wx tg iter fi) (hg : SimG X tg is g) (hb : SimB X Wx body f)
    (hs : ∀ x, foldedSetIterable iter X.env x = pure x := by intro _; rfl) : SimS X Wx (.For tg iter body [] pos) (fFor fi g f) := by
  obtain ⟨ti, pi, hi⟩ := hi
  obtain ⟨tg', pg, hg⟩ := hg.out
  obtain ⟨tb, pb, hb⟩ := hb.out
  refine SimS.mk (ps_for hp hc pi pg pb hs) (fun w d σ D s e h => ?_)
  refine hi w d σ _ s e ((toS_post s e h).mono (fun us S1 h1 w1 J eS st s1 it => ?_) fun _ _ q => q)
  subst eS
  refine ⟨fun i m σ' H => ∃ (w' : Wd) (d' : En), w'.H = H ∧ Stp w1 w' ∧ SR (KMof X) w' ∧ ER (KMof X) w' d' σ' ∧ m = us.length - i ∧ i ≤ us.length ∧ Pst (loopF g f (us.drop i) d' w'.S) (OkS X Wx w D) (fun _ _ => False),
    ⟨us.length, w1, d, rfl, Stp.refl w1, s1, e.ext st.x s, by simp, Nat.zero_le _, h1⟩, ?_⟩
  rintro i m σ' H ⟨w', d', rfl, st', s', e', rfl, hil, q⟩
  obtain ⟨it1, it2⟩ := it w' i st'.x s'
  by_cases hlt : i < us.length
  · rw [drop_at hlt] at q
    obtain ⟨go, yl⟩ := it1 us[i] (List.getElem?_eq_getElem hlt)
    refine .inr ⟨go, fun σ2 H2 => ∃ (w2 : Wd) (d2 : En), w2.H = H2 ∧ Stp w1 w2 ∧ SR (KMof X) w2 ∧ ER (KMof X) w2 d2 σ2 ∧ Pst (loopF g f (us.drop (i + 1)) d2 w2.S) (OkS X Wx w D) (fun _ _ => False), fun σ2 H2 ⟨w2, d2, e1, e2, e3, e4, e5⟩ => ⟨us.length - (i + 1), by omega, w2, d2, e1, e2, e3, e4, rfl, hlt, e5⟩, fun x H' y => ?_⟩
    obtain ⟨w2, rfl, eS2, st2, s2, rx⟩ := yl x H' y
    rw [← eS2] at q
    unfold loopF at q
    split at q
    · exact q.elim
    · rename_i d1 hd1
      refine hg w2 us[i] x d' d1 σ' _ s2 (e'.ext st2.x s') rx hd1 fun σ1 e1 _ => ?_
      refine hb w2 d1 σ1 _ s2 e1 ?_
      have st02 := st.trans (st'.trans st2)
      split at q
      · rename_i d2 S2 hf
        rw [hf]
        exact fun w3 eS3 st3 s3 σ3 e3 => ⟨w3, d2, rfl, (st'.trans st2).trans st3, s3, e3, by rw [eS3]; exact q⟩
      · rename_i d2 S2 hf
        rw [hf]
        exact fun w3 eS3 st3 s3 σ3 e3 => ⟨w3, d2, rfl, (st'.trans st2).trans st3, s3, e3, by rw [eS3]; exact q⟩
      · rename_i d2 S2 hf
        rw [hf]
        exact fun w3 eS3 st3 s3 σ3 e3 => q w3 eS3 (st02.trans st3) s3 σ3 e3
      · rename_i hn1 hn2 hn3
        cases hf : f d1 w2.S with
        | ok fl S2 =>
          rw [hf] at q
          cases fl with
          | nx d2 => exact absurd hf (hn1 d2 S2)
          | ct d2 => exact absurd hf (hn2 d2 S2)
          | bk d2 => exact absurd hf (hn3 d2 S2)
          | rt u => exact fun w3 eS3 st3 s3 v r => q w3 eS3 (st02.trans st3) s3 v r
          | ex x d2 => exact fun w3 eS3 st3 s3 σ3 e3 cls dd xr => q w3 eS3 (st02.trans st3) s3 σ3 e3 cls dd xr
        | exc x S => rw [hf] at q; exact q
        | bad => rw [hf] at q; exact q
  · have e0 : i = us.length := by omega
    subst e0
    rw [List.drop_length] at q
    exact .inl ⟨it2 (Nat.le_refl _), q w' rfl (st.trans st') s' σ' e'⟩
def whileF (fc : FT) (f : FS) : Nat → FS
  | 0, _, _ => .bad
  | n + 1, d, S => toS d (fc d S) fun b S1 => if b then
      match f d S1 with
      | .ok (.nx d2) S2 => whileF fc f n d2 S2
      | .ok (.ct d2) S2 => whileF fc f n d2 S2
      | .ok (.bk d2) S2 => .ok (.nx d2) S2
      | r => r
    else .ok (.nx d) S1
theorem ss_while (n : Nat) {fc : FT} {f : FS} (hp : PassesOwn (model X.prog X.w) X.A X.env X.xe) (hc : SimT X Wx c fc) (hb : SimB X Wx body f) : SimS X Wx (.While c body [] pos) (whileF fc f n) := by
  obtain ⟨tc, pc, hc⟩ := hc.out
  obtain ⟨tb, pb, hb⟩ := hb.out
  refine SimS.mk (ps_while hp pc pb) (fun w d σ D s e h => ?_)
  refine ⟨fun m σ' H => ∃ (w' : Wd) (d' : En), w'.H = H ∧ SR (KMof X) w' ∧ ER (KMof X) w' d' σ' ∧ Pst (whileF fc f m d' w'.S) (OkS X Wx w' D) (fun _ _ => False), ⟨n, w, d, rfl, s, e, h⟩, ?_⟩
  rintro m σ' H ⟨w', d', rfl, s', e', q⟩
  cases m with
  | zero => exact q.elim
  | succ m =>
    unfold whileF at q
    refine hc w' d' σ' _ s' e' ((toS_post s' e' q).mono (fun b S1 h1 w1 eS st1 s1 => ?_) fun _ _ z => z)
    subst eS
    cases b with
    | false => exact h1 w1 rfl st1 s1 σ' (e'.ext st1.x s')
    | true =>
      refine ⟨fun σ2 H2 => ∃ (w2 : Wd) (d2 : En), w2.H = H2 ∧ SR (KMof X) w2 ∧ ER (KMof X) w2 d2 σ2 ∧ Pst (whileF fc f m d2 w2.S) (OkS X Wx w2 D) (fun _ _ => False), fun σ2 H2 z => ⟨m, Nat.lt_succ_self m, z⟩, ?_⟩
      refine hb w1 d' σ' _ s1 (e'.ext st1.x s') ?_
      have h1 : Pst (match f d' w1.S with
          | .ok (.nx d2) S2 => whileF fc f m d2 S2
          | .ok (.ct d2) S2 => whileF fc f m d2 S2
          | .ok (.bk d2) S2 => .ok (.nx d2) S2
          | r => r) (OkS X Wx w' D) (fun _ _ => False) := h1
      split at h1
      · rename_i d2 S2 hf
        rw [hf]
        exact fun w3 eS3 st3 s3 σ3 e3 => ⟨w3, d2, rfl, s3, e3, by rw [eS3]; exact Pst.mono h1 (fun _ _ z => z.up (st1.trans st3)) fun _ _ z => z⟩
      · rename_i d2 S2 hf
        rw [hf]
        exact fun w3 eS3 st3 s3 σ3 e3 => ⟨w3, d2, rfl, s3, e3, by rw [eS3]; exact Pst.mono h1 (fun _ _ z => z.up (st1.trans st3)) fun _ _ z => z⟩
      · rename_i d2 S2 hf
        rw [hf]
        exact fun w3 eS3 st3 s3 σ3 e3 => h1 w3 eS3 (st1.trans st3) s3 σ3 e3
      · rename_i hn1 hn2 hn3
        cases hf : f d' w1.S with
        | ok fl S2 =>
          rw [hf] at h1
          cases fl with
          | nx d2 => exact absurd hf (hn1 d2 S2)
          | ct d2 => exact absurd hf (hn2 d2 S2)
          | bk d2 => exact absurd hf (hn3 d2 S2)
          | rt u => exact fun w3 eS3 st3 s3 v r => h1 w3 eS3 (st1.trans st3) s3 v r
          | ex x d2 => exact fun w3 eS3 st3 s3 σ3 e3 cls dd xr => h1 w3 eS3 (st1.trans st3) s3 σ3 e3 cls dd xr
        | exc x S => rw [hf] at h1; exact h1
        | bad => rw [hf] at h1; exact h1
abbrev W0 : WX := fun _ _ _ _ => False
def SimTs (X : Cx) (Wx : WX) (ifs : List Expr) (f : FT) : Prop := PTs X ifs (tT X Wx f)
def fYes : FT := fun _ S => .ok true S
theorem ts_nil : SimTs X Wx [] fYes := ⟨fun pins s σ H Q I ⟨w, d, e, sr, er, q⟩ => pts_nil.run pins s σ H Q I (by subst e; exact q w rfl (Stp.refl w) sr)⟩
theorem ts_one {f : FT} (h : SimT X Wx c f) : SimTs X Wx [c] f := pts_one h
def wipeE (d : En) : List Nat → En
  | [] => d
  | v :: vs => (wipeE d vs).set v none
theorem ER.wipe {K : KM} {w : Wd} {d : En} {σ : L2.St} (e : ER K w d σ) : ∀ vs : List Nat, ER K w (wipeE d vs) (L2.wipe σ vs)
  | [] => e
  | v :: vs => (ER.wipe e vs).forget v none
def compF (g : U → En → Option En) (ft : FT) (fe : FE) (d : En) : List U → List U → Sto → R (List U)
  | [], acc, S => .ok acc S
  | u :: us, acc, S => match g u d with
    | none => .bad
    | some d1 => match ft d1 S with
      | .ok true S1 => match fe d1 S1 with
        | .ok y S2 => guard (decide (acc.length < sizeLine)) (compF g ft fe d us (acc ++ [y]) S2)
        | _ => .bad
      | .ok false S1 => compF g ft fe d us acc S1
      | _ => .bad
def aComp (fi : FA) (g : U → En → Option En) (ft : FT) (fe : FE) (vs : List Nat) : FA := fun d S => (fi d S).bind fun us S1 => compF g ft fe (wipeE d vs) us [] S1
theorem comp_core {wi : TI} {fi : FA} {is vs : List Nat} {g : U → En → Option En} {ft : FT} {fe : FE}
    (hi : ∀ (w : Wd) (d : En) (σ : L2.St) (Q : It → Hp → Prop), SR (KMof X) w → ER (KMof X) w d σ → Pst (fi d w.S) (OkI X w Q) (XPost X Wx σ w) → wi σ w.H Q) (hv : ∀ i ∈ is, i ∈ vs)
    (w : Wd) (d : En) (σ : L2.St) (Q : VK) (s : SR (KMof X) w) (e : ER (KMof X) w d σ) (h : Pst (aComp fi g ft fe vs d w.S) (OkL X w Q) (XPost X Wx σ w)) : tLc wi (tG X is g) (tT X W0 ft) (tE X W0 fe) vs σ w.H Q := by
  refine hi w d σ _ s e ((Pst.of_bind h).mono (fun us S1 h1 w1 J eS st s1 it => ?_) fun _ _ q => q)
  subst eS
  intro D hD
  have nD : D ∉ w1.r := fun z => s1.tracked (.inl z) hD
  have noE : ∀ (us acc : List U) (S : Sto), Pst (compF g ft fe (wipeE d vs) us acc S) (OkL X w Q) (XPost X Wx σ w) → Pst (compF g ft fe (wipeE d vs) us acc S) (OkL X w Q) (fun _ _ => False) := fun us => by
    induction us with
    | nil => intro acc S h; exact h
    | cons u us ih =>
      intro acc S h
      unfold compF at h ⊢
      split at h
      · exact h.elim
      · split at h
        · split at h
          · obtain ⟨hl, h⟩ := guard_post h
            rw [hl]
            exact ih _ _ h
          · exact h.elim
        · exact ih _ _ h
        · exact h.elim
  refine ⟨fun i m H => ∃ (w' : Wd) (acc : List U) (xs : List V), w'.H = H ∧ Ext w1 w' ∧ (∀ a ∈ w1.r, w'.H a = w1.H a) ∧ SR (KMof X) w' ∧ w'.r = D :: w1.r ∧ w'.H D = some (.lst xs) ∧ VRs (KMof X) w' acc xs ∧ m = us.length - i ∧ i ≤ us.length ∧
      Pst (compF g ft fe (wipeE d vs) (us.drop i) acc w'.S) (OkL X w Q) (fun _ _ => False),
    ⟨us.length, w1.hold D (.lst []), [], [], rfl, Ext.hold s1 hD, fun a ha => ?_, s1.hold hD (.inl ⟨_, rfl⟩), rfl, upd_same, .nil, by simp, Nat.zero_le _, noE us [] w1.S h1⟩, ?_⟩
  · show upd w1.H D _ a = w1.H a
    rw [upd_ne fun z => nD (by rw [← z]; exact ha)]
  rintro i m H ⟨w', acc, xs, rfl, x1, k1, s', er, eD, rs, rfl, hil, q⟩
  have hDr : D ∈ w'.r := by rw [er]; exact List.mem_cons_self
  obtain ⟨it1, it2⟩ := it w' i x1 s'
  by_cases hlt : i < us.length
  · rw [drop_at hlt] at q
    obtain ⟨go, yl⟩ := it1 us[i] (List.getElem?_eq_getElem hlt)
    refine .inr ⟨go, fun H2 => ∃ (w2 : Wd) (acc2 : List U) (xs2 : List V), w2.H = H2 ∧ Ext w1 w2 ∧ (∀ a ∈ w1.r, w2.H a = w1.H a) ∧ SR (KMof X) w2 ∧ w2.r = D :: w1.r ∧ w2.H D = some (.lst xs2) ∧ VRs (KMof X) w2 acc2 xs2 ∧ Pst (compF g ft fe (wipeE d vs) (us.drop (i + 1)) acc2 w2.S) (OkL X w Q) (fun _ _ => False),
      fun H2 ⟨w2, acc2, xs2, e1, e2, e3, e4, e5, e6, e7, e8⟩ => ⟨us.length - (i + 1), by omega, w2, acc2, xs2, e1, e2, e3, e4, e5, e6, e7, rfl, hlt, e8⟩, fun x H' y => ?_⟩
    obtain ⟨w2, rfl, eS2, st2, s2, rx⟩ := yl x H' y
    rw [← eS2] at q
    have sub : ∀ a ∈ w1.r, a ∈ w'.r := fun a ha => by rw [er]; exact List.mem_cons_of_mem _ ha
    -- later worlds
    have later : ∀ {w3 : Wd}, Stp w' w3 → SR (KMof X) w3 → Ext w1 w3 ∧ (∀ a ∈ w1.r, w3.H a = w1.H a) ∧ w3.r = D :: w1.r ∧ w3.H D = some (.lst xs) ∧ VRs (KMof X) w3 acc xs := fun {w3} st3 s3 =>
      ⟨x1.trans st3.x, fun a ha => (st3.k a (sub a ha)).trans (k1 a ha), st3.r.trans er, (st3.k D hDr).trans eD, rs.ext st3.x s'⟩
    unfold compF at q
    split at q
    · exact q.elim
    · rename_i d1 hd1
      have e2 : ER (KMof X) w2 (wipeE d vs) (L2.wipe σ vs) := (((e.ext st.x s).ext x1 s1).ext st2.x s').wipe vs
      refine ⟨w2, us[i], wipeE d vs, d1, rfl, s2, e2, rx, hd1, fun σ2 eσ kσ => ⟨?_, ?_⟩⟩
      · have hk := kσ vs hv
        have ww : ∀ σ : L2.St, L2.wipe (L2.wipe σ vs) vs = L2.wipe σ vs := fun σ => by
          refine List.ext_getElem? fun j => ?_
          rw [wipe_get, wipe_get, wipe_length]
          split <;> rfl
        rw [hk, ww]
      · refine ⟨w2, d1, rfl, s2, eσ, ?_⟩
        split at q
        · rename_i S3 ht
          rw [ht]
          intro w3 eS3 st3 s3
          rw [← eS3] at q
          split at q
          · rename_i y4 S4 hy
            refine ⟨w3, d1, rfl, s3, eσ.ext st3.x s2, ?_⟩
            rw [hy]
            intro w4 v4 eS4 st4 s4 r4
            rw [← eS4] at q
            obtain ⟨hl, q⟩ := guard_post q
            have st34 := (st2.trans st3).trans st4
            obtain ⟨l1, l2, l3, l4, l5⟩ := later st34 s4
            have hD4 : D ∈ w4.r := by rw [l3]; exact List.mem_cons_self
            refine ⟨xs, l4, by rw [← rs.length]; exact of_decide_eq_true hl, w4.grow D (xs ++ [v4]), acc ++ [y4], xs ++ [v4], rfl, l1.trans (Ext.grow hD4), fun a ha => ?_, s4.grow hD4, l3, upd_same, (l5.snoc r4).ext (Ext.grow hD4) s4, q⟩
            show upd w4.H D _ a = w1.H a
            rw [upd_ne fun z => nD (by rw [← z]; exact ha)]
            exact l2 a ha
          · exact q.elim
        · rename_i S3 ht
          rw [ht]
          intro w3 eS3 st3 s3
          rw [← eS3] at q
          obtain ⟨l1, l2, l3, l4, l5⟩ := later (st2.trans st3) s3
          exact ⟨w3, acc, xs, rfl, l1, l2, s3, l3, l4, l5, q⟩
        · exact q.elim
  · have e0 : i = us.length := by omega
    subst e0
    rw [List.drop_length] at q
    refine .inl ⟨it2 (Nat.le_refl _), ?_⟩
    have hq := q (w'.cut D) D xs rfl ⟨(st.x.trans (x1.cut hD)), ?_, fun a ha => ?_⟩ (s'.cut hDr) (rs.cut s' (.inl hDr)) cut_D
    · rw [cut_back eD] at hq
      exact hq
    · show w'.r.filter _ = w.r
      rw [er, let_go_r nD]
      exact st.r
    · have ha1 : a ∈ w1.r := by rw [st.r]; exact ha
      rw [cut_at fun z => nD (by rw [← z]; exact ha1), k1 a ha1]
      exact st.k a ha
section
variable {ifs : List Expr} {scope : Scope} {own : List (Str × Nat)} {fi : FA} {is vs : List Nat} {g : U → En → Option En} {ft : FT} {fe : FE}
theorem sl_comp (hc : X.calm = true) (hN : X.N.Nodup) (hi : SimI X Wx tg iter fi) (ok : BlkOk X.N X.env.scope scope own)
    (hg : ∀ (s : Shared) (H : Hp) (C : Addr) (cl : List (Str × Addr)) (fp : List Addr), SimG (X.blk s H scope (compEnvC scope cl C X.env) fp) tg is g)
    (ht : ∀ (s : Shared) (H : Hp) (C : Addr) (cl : List (Str × Addr)) (fp : List Addr), SimTs (X.blk s H scope (compEnvC scope cl C X.env) fp) W0 ifs ft)
    (he : ∀ (s : Shared) (H : Hp) (C : Addr) (cl : List (Str × Addr)) (fp : List Addr), SimE (X.blk s H scope (compEnvC scope cl C X.env) fp) W0 elt fe)
    (hvs : own.map (·.2) = vs := by rfl) (hv : ∀ i ∈ is, i ∈ vs := by decide) (hs : ∀ x, foldedSetIterable iter X.env x = pure x := by intro _; rfl) :
    SimL X Wx (.ListComp elt [⟨tg, iter, ifs, 0⟩] scope pos) (aComp fi g ft fe vs) := by
  subst hvs
  obtain ⟨ti, pi, hi⟩ := hi
  exact SimL.mk (pe_lc (g := tG X is g) (tt := tT X W0 ft) (te := tE X W0 fe) hc hN pi ok hg ht he hs) (fun w d σ Q s e h => comp_core hi hv w d σ Q s e h)
theorem ss_setComp (i : Nat) {y : Str} {py spos : Pos} (hc : X.calm = true) (hN : X.N.Nodup) (hy : X.N[i]? = some y) (hyl : X.env.scope.names.lookup y = some .local)
    (hsw : swapsWith (.ListComp elt [⟨tg, iter, ifs, 0⟩] scope pos) (some (.Name y py)) spos.line X.env = pure true) (hi : SimI X Wx tg iter fi) (ok : BlkOk X.N X.env.scope scope own)
    (hg : ∀ (s : Shared) (H : Hp) (C : Addr) (cl : List (Str × Addr)) (fp : List Addr), SimG (X.blk s H scope (compEnvC scope cl C X.env) fp) tg is g)
    (ht : ∀ (s : Shared) (H : Hp) (C : Addr) (cl : List (Str × Addr)) (fp : List Addr), SimTs (X.blk s H scope (compEnvC scope cl C X.env) fp) W0 ifs ft)
    (he : ∀ (s : Shared) (H : Hp) (C : Addr) (cl : List (Str × Addr)) (fp : List Addr), SimE (X.blk s H scope (compEnvC scope cl C X.env) fp) W0 elt fe)
    (hvs : own.map (·.2) = vs := by rfl) (hv : ∀ i ∈ is, i ∈ vs := by decide) (hs : ∀ x, foldedSetIterable iter X.env x = pure x := by intro _; rfl) :
    SimS X Wx (.Assign [.Name y py] (.ListComp elt [⟨tg, iter, ifs, 0⟩] scope pos) spos) (fSet i (fVal (aComp fi g ft fe vs))) ∧
    SimS X Wx (.Assign [.Name y py] (.ListComp elt [⟨tg, iter, ifs, 0⟩] scope pos) spos) (fSet i (fLoc (aComp fi g ft fe vs))) := by
  subst hvs
  obtain ⟨ti, pi, hi⟩ := hi
  have hp := ps_setLc (g := tG X is g) (tt := tT X W0 ft) (te := tE X W0 fe) hc hN hy hyl hsw pi ok hg ht he hs
  refine ⟨SimS.mk hp (fun w d σ D s e h => ?_), SimS.mk hp (fun w d σ D s e h => ?_)⟩
  · refine comp_core hi hv w d σ _ s e ((Pst.of_bind (toS_post s e h)).mono (fun us S1 h1 w1 p xs eS st s1 rs hp => ?_) fun _ _ q => q)
    subst eS
    have st1 := Stp.new s1 (o := .lst xs) hp
    exact h1 (w1.new p (.lst xs)) rfl (st.trans st1) (s1.new hp) _ (((e.ext st.x s).ext st1.x s1).set i (.lst upd_same (fun q => s1.tracked q hp) (rs.ext st1.x s1)))
  · refine comp_core hi hv w d σ _ s e ((Pst.of_bind (toS_post s e h)).mono (fun us S1 h1 w1 p xs eS st s1 rs hp => ?_) fun _ _ q => q)
    subst eS
    have st1 := Stp.push s1 (o := .lst xs) (b := .lst us) hp
    refine h1 (w1.push p (.lst xs) (.lst us)) rfl (st.trans st1) (s1.push hp ⟨xs, upd_same, rs.ext st1.x s1⟩) _ (((e.ext st.x s).ext st1.x s1).set i (.loc ?_))
    show (w1.m ++ [p])[w1.S.length]? = some p
    rw [← s1.len]
    simp
end
end
end DL
namespace DL
open PySem PySem.Spec L2
def hasK (ks : List Key) (k : Key) : Bool := ks.any fun j => decide (j = k)
def replU : List Key → List U → Key → U → List U
  | j :: ks, y :: us, k, u => (if j = k then u else y) :: replU ks us k u
  | _, _, _, _ => []
def putU (ks : List Key) (us : List U) (k : Key) (u : U) : List Key × List U := if hasK ks k then (ks, replU ks us k u) else (ks ++ [k], us ++ [u])
section
variable {K : KM} {w : Wd}
theorem zip_any {k : Key} : ∀ {ks : List Key} {xs : List V}, ks.length = xs.length → ((ks.zip xs).any fun kv => decide (kv.1 = k)) = hasK ks k
  | [], _, _ => rfl
  | j :: ks, [], h => by rw [List.length_cons, List.length_nil] at h; omega
  | j :: ks, x :: xs, h => by
    rw [List.zip_cons_cons, List.any_cons, zip_any (ks := ks) (xs := xs) (by simpa using h)]
    rfl
theorem repl_ok {k : Key} {u : U} {v : V} (r : VR K w u v) : ∀ {ks : List Key} {us : List U} {xs : List V}, ks.length = us.length → VRs K w us xs →
    ∃ xs', (ks.zip xs).map (fun kv => if kv.1 = k then (kv.1, v) else kv) = ks.zip xs' ∧ VRs K w (replU ks us k u) xs' ∧ (replU ks us k u).length = ks.length
  | [], us, xs, h, rs => by
    cases us with
    | nil => exact ⟨[], by rw [List.zip_nil_left, List.zip_nil_left]; rfl, .nil, rfl⟩
    | cons y us => rw [List.length_cons, List.length_nil] at h; omega
  | j :: ks, us, xs, h, rs => by
    cases rs with
    | nil => rw [List.length_cons, List.length_nil] at h; omega
    | @cons y us x xs ry rs =>
      obtain ⟨xs', e, rs', l⟩ := repl_ok r (ks := ks) (by simpa using h) rs
      rw [List.zip_cons_cons, List.map_cons, e]
      by_cases hj : j = k
      · refine ⟨v :: xs', by rw [if_pos hj, List.zip_cons_cons], ?_, ?_⟩
        · show VRs K w ((if j = k then u else y) :: replU ks us k u) (v :: xs')
          rw [if_pos hj]; exact .cons r rs'
        · show ((if j = k then u else y) :: replU ks us k u).length = _
          rw [List.length_cons, List.length_cons, l]
      · refine ⟨x :: xs', by rw [if_neg hj, List.zip_cons_cons], ?_, ?_⟩
        · show VRs K w ((if j = k then u else y) :: replU ks us k u) (x :: xs')
          rw [if_neg hj]; exact .cons ry rs'
        · show ((if j = k then u else y) :: replU ks us k u).length = _
          rw [List.length_cons, List.length_cons, l]
theorem put_ok {k : Key} {u : U} {v : V} (r : VR K w u v) {ks : List Key} {us : List U} {xs : List V} (l : ks.length = us.length) (rs : VRs K w us xs) :
    ∃ xs', putK (ks.zip xs) k v = (putU ks us k u).1.zip xs' ∧ VRs K w (putU ks us k u).2 xs' ∧ (putU ks us k u).1.length = (putU ks us k u).2.length := by
  unfold putK putU
  rw [zip_any (by rw [l, rs.length])]
  cases hasK ks k with
  | true =>
    obtain ⟨xs', e, rs', l'⟩ := repl_ok (k := k) r l rs
    exact ⟨xs', e, rs', l'.symm⟩
  | false =>
    refine ⟨xs ++ [v], ?_, rs.snoc r, ?_⟩
    · show ks.zip xs ++ [(k, v)] = (ks ++ [k]).zip (xs ++ [v])
      rw [List.zip_append (by rw [l, rs.length])]
      rfl
    · show (ks ++ [k]).length = (us ++ [u]).length
      simp [l]
def mergeU (acc : List Key × List U) : List (Key × U) → List Key × List U
  | [] => acc
  | (k, u) :: r => mergeU (putU acc.1 acc.2 k u) r
theorem merge_ok : ∀ {ps : List (Key × U)} {vs : List V} {ks : List Key} {us : List U} {xs : List V}, VRs K w (ps.map (·.2)) vs → ks.length = us.length → VRs K w us xs →
    ∃ xs', mergeK (ks.zip xs) ((ps.map (·.1)).zip vs) = (mergeU (ks, us) ps).1.zip xs' ∧ VRs K w (mergeU (ks, us) ps).2 xs' ∧ (mergeU (ks, us) ps).1.length = (mergeU (ks, us) ps).2.length
  | [], _, ks, us, xs, .nil, l, rs => ⟨xs, rfl, rs, l⟩
  | (k, u) :: ps, v :: vs, ks, us, xs, .cons r rr, l, rs => by
    obtain ⟨xs1, e1, r1, l1⟩ := put_ok (k := k) r l rs
    obtain ⟨xs2, e2, r2, l2⟩ := merge_ok rr l1 r1
    refine ⟨xs2, ?_, r2, l2⟩
    show mergeK (putK (ks.zip xs) k v) ((ps.map (·.1)).zip vs) = _
    rw [e1]
    exact e2
end
section
variable {X : Cx} {Wx : WX}
abbrev FD := En → Sto → R (List Key × List U)
def OkD (X : Cx) (w : Wd) (Q : VK) (p : List Key × List U) (S' : Sto) : Prop :=
  ∀ (w' : Wd) (a : Addr) (xs : List V), w'.S = S' → Stp w w' → SR (KMof X) w' → p.1.length = p.2.length → VRs (KMof X) w' p.2 xs → w'.H a = none → Q (.ref a) (upd w'.H a (.dK (p.1.zip xs)))
theorem OkD.up {w w1 : Wd} {Q : VK} {u : List Key × List U} {S' : Sto} (h : OkD X w Q u S') (st : Stp w w1) : OkD X w1 Q u S' := fun w' p xs e s2 sr l r hp => h w' p xs e (st.trans s2) sr l r hp
def SimD (X : Cx) (Wx : WX) (e : Expr) (f : FD) : Prop := PE X e (fun σ H Q => ∃ (w : Wd) (d : En), w.H = H ∧ SR (KMof X) w ∧ ER (KMof X) w d σ ∧ Pst (f d w.S) (OkD X w Q) (XPost X Wx σ w))
theorem SimD.mk {e : Expr} {f : FD} {t : TE} (p : PE X e t) (h : ∀ (w : Wd) (d : En) (σ : L2.St) (Q : VK), SR (KMof X) w → ER (KMof X) w d σ → Pst (f d w.S) (OkD X w Q) (XPost X Wx σ w) → t σ w.H Q) : SimD X Wx e f :=
  ⟨fun pins s σ H Q I ⟨w, d, e, sr, er, q⟩ => p.run pins s σ H Q I (by subst e; exact h w d σ Q sr er q)⟩
def fDval (g : FD) : FE := fun d S => (g d S).bind fun p S1 => .ok (.dic p.1 p.2) S1
def fDloc (g : FD) : FE := fun d S => (g d S).bind fun p S1 => .ok (.loc S1.length) (S1 ++ [.dic p.1 p.2])
theorem SimD.val {e : Expr} {g : FD} (h : SimD X Wx e g) : SimE X Wx e (fDval g) := by
  refine SimE.mk h (fun w d σ Q s e h0 => ⟨w, d, rfl, s, e, (Pst.of_bind h0).mono (fun p S1 h1 w1 a xs eS st s1 l rs hp => ?_) fun _ _ q => q⟩)
  subst eS
  have st1 := Stp.new s1 (o := .dK (p.1.zip xs)) hp
  exact h1 (w1.new a _) (.ref a) rfl (st.trans st1) (s1.new hp) (.dic upd_same (fun q => s1.tracked q hp) l (rs.ext st1.x s1))
theorem SimD.loc {e : Expr} {g : FD} (h : SimD X Wx e g) : SimE X Wx e (fDloc g) := by
  refine SimE.mk h (fun w d σ Q s e h0 => ⟨w, d, rfl, s, e, (Pst.of_bind h0).mono (fun p S1 h1 w1 a xs eS st s1 l rs hp => ?_) fun _ _ q => q⟩)
  subst eS
  have st1 := Stp.push s1 (o := .dK (p.1.zip xs)) (b := .dic p.1 p.2) hp
  refine h1 (w1.push a _ (.dic p.1 p.2)) (.ref a) rfl (st.trans st1) (s1.push hp ⟨xs, upd_same, l, rs.ext st1.x s1⟩) (.loc ?_)
  show (w1.m ++ [a])[w1.S.length]? = some a
  rw [← s1.len]
  simp
variable {pos : Pos}
def dNew : FD := fun _ S => .ok ([], []) S
theorem sd_new : SimD X Wx (.Dict [] [] pos) dNew := SimD.mk pe_dnewK (fun w d σ Q s e h p hp => h w p [] rfl (Stp.refl w) s rfl .nil hp)
def evalP : List (FE × FE) → En → Sto → R (List (Key × U))
  | [], _, S => .ok [] S
  | (fk, fv) :: r, d, S => match fk d S with
    | .ok x S1 => match fv d S1 with
      | .ok y S2 => match evalP r d S2 with
        | .ok ps S3 => match keyU x with
          | some k => .ok ((k, y) :: ps) S3
          | none => .bad
        | _ => .bad
      | _ => .bad
    | _ => .bad
def SimP (X : Cx) (Wx : WX) (pos : Pos) (keys : List (Option Expr)) (values : List Expr) (fs : List (FE × FE)) : Prop := PPs X pos keys values (fs.map fun p => (tE X Wx p.1, tE X Wx p.2))
theorem sp_nil : SimP X Wx pos [] [] [] := pps_nil
theorem sp_cons {k v : Expr} {ks : List (Option Expr)} {vs : List Expr} {fk fv : FE} {fs : List (FE × FE)} (hk : SimE X Wx k fk) (hv : SimE X Wx v fv) (hr : SimP X Wx pos ks vs fs) : SimP X Wx pos (some k :: ks) (v :: vs) ((fk, fv) :: fs) := pps_cons hk hv hr
theorem evalP_ok : ∀ {fs : List (FE × FE)} {w : Wd} {d : En} {σ : L2.St} {Q : List (V × V) → Hp → Prop}, SR (KMof X) w → ER (KMof X) w d σ →
    Pst (evalP fs d w.S) (fun ps S' => ∀ (w' : Wd) (vs : List V), w'.S = S' → Stp w w' → SR (KMof X) w' → VRs (KMof X) w' (ps.map (·.2)) vs → Q (((ps.map (·.1)).map kV).zip vs) w'.H) (fun _ _ => False) → tPairs (fs.map fun p => (tE X Wx p.1, tE X Wx p.2)) σ w.H Q
  | [], w, d, σ, Q, s, e, h => h w [] rfl (Stp.refl w) s .nil
  | (fk, fv) :: r, w, d, σ, Q, s, e, h => by
    unfold evalP at h
    split at h
    · rename_i x S1 hx
      refine ⟨w, d, rfl, s, e, ?_⟩
      show Pst (fk d w.S) _ _
      rw [hx]
      intro w1 v1 eS1 st1 s1 r1
      rw [← eS1] at h
      split at h
      · rename_i y S2 hy
        refine ⟨w1, d, rfl, s1, e.ext st1.x s, ?_⟩
        show Pst (fv d w1.S) _ _
        rw [hy]
        intro w2 v2 eS2 st2 s2 r2
        rw [← eS2] at h
        refine evalP_ok (d := d) s2 ((e.ext st1.x s).ext st2.x s1) ?_
        split at h
        · rename_i ps S3 hp
          rw [hp]
          intro w3 vs eS3 st3 s3 rs
          split at h
          · rename_i k hk
            have hv1 := keyU_ok r1 hk
            have h3 := h w3 (v2 :: vs) eS3 ((st1.trans st2).trans st3) s3 (.cons (r2.ext st3.x s2) rs)
            rw [hv1]
            exact h3
          · exact h.elim
        · exact h.elim
      · exact h.elim
    · exact h.elim
def dDisp (fs : List (FE × FE)) : FD := fun d S => match evalP fs d S with
  | .ok ps S1 => guard (decide (ps.length ≤ 15)) (.ok (mergeU ([], []) ps) S1)
  | _ => .bad
theorem sd_disp {keys : List (Option Expr)} {values : List Expr} {fs : List (FE × FE)} (h : SimP X Wx pos keys values fs) (hall : keys.all (·.isSome) = true := by rfl) (hl : keys.length = values.length := by rfl) (h0 : keys ≠ [] := by intro z; cases z)
    (hn : keys.length ≤ 15 := by decide) : SimD X Wx (.Dict keys values pos) (dDisp fs) := by
  refine SimD.mk (pe_disp h hall hl h0 hn) (fun w d σ Q s e h => ?_)
  intro p hp
  have sh := s.hold (o := .dK []) hp (.inr ⟨_, rfl⟩)
  have xh := Ext.hold s (o := .dK []) hp
  have np : p ∉ w.r := fun z => s.tracked (.inl z) hp
  refine evalP_ok (w := w.hold p (.dK [])) (d := d) sh (e.ext xh s) ?_
  show Pst (evalP fs d w.S) _ _
  unfold dDisp at h
  split at h
  · rename_i ps S1 hps
    rw [hps]
    obtain ⟨hlen, h⟩ := guard_post h
    intro w1 vs eS st1 s1 rs
    have hpr : p ∈ w1.r := by rw [st1.r]; exact List.mem_cons_self
    have ep : w1.H p = some (.dK []) := (st1.k p List.mem_cons_self).trans upd_same
    refine ⟨ep, (ps.map (·.1)).zip vs, ?_, ?_, ?_⟩
    · have : ∀ (ks : List Key) (vs : List V), (ks.map kV).zip vs = (ks.zip vs).map fun kv => (kV kv.1, kv.2) := fun ks => by
        induction ks with
        | nil => intro vs; rfl
        | cons k ks ih =>
          intro vs
          cases vs with
          | nil => rfl
          | cons v vs => rw [List.map_cons, List.zip_cons_cons, List.zip_cons_cons, List.map_cons, ih]
      exact this _ _
    · rw [List.length_zip, List.length_map]
      exact Nat.le_trans (Nat.min_le_left _ _) (of_decide_eq_true hlen)
    · obtain ⟨xs', em, rm, lm⟩ := merge_ok (ks := []) (us := []) (xs := []) (rs.cut s1 (.inl hpr)) rfl .nil
      have em' : mergeK [] ((ps.map (·.1)).zip vs) = (mergeU ([], []) ps).1.zip xs' := em
      rw [em']
      have hq := h (w1.cut p) p xs' eS ⟨(xh.trans st1.x).cut hp, ?_, fun a ha => ?_⟩ (s1.cut hpr) lm rm cut_D
      · have hb : upd (w1.cut p).H p (.dK ((mergeU ([], []) ps).1.zip xs')) = upd w1.H p (.dK ((mergeU ([], []) ps).1.zip xs')) := by
          funext b
          by_cases eb : b = p
          · subst eb; rw [upd_same, upd_same]
          · rw [upd_ne eb, upd_ne eb, cut_at eb]
        rw [hb] at hq
        exact hq
      · show w1.r.filter _ = w.r
        rw [st1.r]
        exact let_go_r np
      · rw [cut_at fun z => np (by rw [← z]; exact ha), st1.k a (List.mem_cons_of_mem _ ha)]
        show upd w.H p _ a = w.H a
        rw [upd_ne fun z => np (by rw [← z]; exact ha)]
  · exact h.elim
def stU (o i v : U) (S : Sto) : Option Sto := match o with
  | .loc n => match S[n]? with
    | some (.lst us) => match i with
      | .int k => (ixN us.length k).map fun j => S.set n (.lst (us.set j v))
      | _ => none
    | some (.dic ks us) => match keyU i with
      | some k => if ks.length < sizeLine then some (S.set n (.dic (putU ks us k v).1 (putU ks us k v).2)) else none
      | none => none
    | _ => none
  | _ => none
theorem set_any (hu : X.A.units + 1 < cLine) : PSet X (fun o i v H Q => rSetL o i v H Q ∨ ∃ a H', o = .ref a ∧ DPut H a i v H' ∧ Q H') := by
  intro pins s σ H o i v ov iv u Q I ro ri rv h
  rcases h with h | ⟨a, H', rfl, g, q⟩
  · exact set_list pins s σ H o i v ov iv u Q I ro ri rv h
  · cases ro
    exact d_setItem hu I g ri rv fun s' I' => ⟨H', I', q⟩
def fStore (fe fo fi : FE) : FS := fun d S => toS d (fe d S) fun v S1 => toS d (fo d S1) fun o S2 => toS d (fi d S2) fun i S3 => match stU o i v S3 with
  | some S4 => .ok (.nx d) S4
  | none => .bad
theorem ss_store {e o i : Expr} {fe fo fi : FE} {p2 : Pos} (hu : X.A.units + 1 < cLine) (he : SimE X Wx e fe) (ho : SimE X Wx o fo) (hi : SimE X Wx i fi)
    (ha : ∀ v, assign (.Subscript o i p2) X.env v = (do
      let ov ← holding [v] (eval o X.env)
      let iv ← holding [v, ov] (eval i X.env)
      standAt p2
      holding [v, ov, iv] (setItem ov iv v)
      release [v, ov, iv] []) := by intro _; rfl)
    (hs : swapsWithSole [.Subscript o i p2] e pos.line X.env = pure false := by rfl) (hw : swappedStores [.Subscript o i p2] e X.env = pure none := by rfl)
    (h1 : (assignEach [.Subscript o i p2] X.env).map (·.2) = [assign (.Subscript o i p2) X.env] := by rfl) : SimS X Wx (.Assign [.Subscript o i p2] e pos) (fStore fe fo fi) := by
  obtain ⟨te, pe, he⟩ := he.out
  obtain ⟨to, po, ho⟩ := ho.out
  obtain ⟨ti, pi, hi⟩ := hi.out
  refine SimS.mk (ps_asg pe (pg_sub po pi (set_any hu) ha) hs hw h1) (fun w d σ D s e h => ?_)
  refine he w d σ _ s e ((toS_post s e h).mono (fun v S1 h1 w1 vv eS st s1 rv => ?_) fun _ _ q => q)
  subst eS
  have e1 := e.ext st.x s
  refine ho w1 d σ _ s1 e1 ((toS_post s1 e1 (Pst.mono h1 (fun _ _ q => q.up st) fun _ _ q => q)).mono (fun ou S2 h2 w2 vo eS2 st2 s2 ro => ?_) fun _ _ q => q)
  subst eS2
  have e2 := e1.ext st2.x s1
  refine hi w2 d σ _ s2 e2 ((toS_post s2 e2 (Pst.mono h2 (fun _ _ q => q.up st2) fun _ _ q => q)).mono (fun iu S3 h3 w3 vi eS3 st3 s3 ri => ?_) fun _ _ q => q)
  subst eS3
  have ro3 := ro.ext st3.x s2
  have rv3 := (rv.ext st2.x s1).ext st3.x s2
  have e3 := e2.ext st3.x s2
  have fin : ∀ {w4 : Wd}, Stp w3 w4 → SR (KMof X) w4 → OkS X Wx w2 D (.nx d) w4.S → D.nx σ w4.H := fun {w4} st4 s4 q => q w4 rfl (st3.trans st4) s4 σ (e3.ext st4.x s3)
  split at h3
  · rename_i S4 hS4
    unfold stU at hS4
    split at hS4
    · rename_i n
      cases ro3 with
      | @loc _ a hm =>
        split at hS4
        · rename_i us hS
          split at hS4
          · rename_i k
            cases ri
            cases hj : ixN us.length k with
            | none => rw [hj] at hS4; cases hS4
            | some j =>
              rw [hj] at hS4
              cases hS4
              obtain ⟨xs, q, rs⟩ := s3.obj n a _ hm hS
              have st4 : Stp w3 (w3.put n a (.lst (xs.set j vv)) (.lst (us.set j v))) := Stp.put s3 hm hS (by intro z; cases z)
              exact .inl ⟨a, xs, k, j, rfl, rfl, q, by rw [← rs.length]; exact hj, fin st4 (s3.put hm hS (by intro z; cases z) ⟨_, upd_same, (rs.set rv3 j).ext st4.x s3⟩) h3⟩
          · cases hS4
        · rename_i ks us hS
          split at hS4
          · rename_i k hk
            split at hS4
            · rename_i hl
              cases hS4
              obtain ⟨xs, q, l, rs⟩ := s3.obj n a _ hm hS
              rw [keyU_ok ri hk]
              obtain ⟨xs', ep, rs', l'⟩ := put_ok (k := k) rv3 l rs
              have st4 : Stp w3 (w3.put n a (.dK ((putU ks us k v).1.zip xs')) (.dic (putU ks us k v).1 (putU ks us k v).2)) := Stp.put s3 hm hS (by intro z; cases z)
              refine .inr ⟨a, _, rfl, DPut.k q (by rw [zip_len l rs]; exact hl), ?_⟩
              rw [ep]
              exact fin st4 (s3.put hm hS (by intro z; cases z) ⟨_, upd_same, l', rs'.ext st4.x s3⟩) h3
            · cases hS4
          · cases hS4
        · cases hS4
    · cases hS4
  · exact h3.elim
end
end DL
namespace DL
open PySem PySem.Spec L2
def fB (f : FE) : FT := fun d S => asB (f d S)
def fNever : FS := fun _ _ => .bad
section
variable {X : Cx} {Wx : WX} {pos : Pos}
theorem se_ty (n : String) {x : Str} (hg : Gl X x) (hm : X.mg x = none) (hv : bootBuiltins x = some (.type n)) (hn : x ≠ "__name__" := by decide) (hd : (x == ("__debug__" : Str)) = false := by decide) : SimE X Wx (.Name x pos) (fC (.ty n)) :=
  se_bltn hg hm hv (v := .ty n) rfl (fun _ => .ty n) hn hd
inductive TabOk (K : PySem.W.Frag) : List DictEntry → List (Str × U) → Prop
  | nil : TabOk K [] []
  | cons {e : DictEntry} {es : List DictEntry} {k : Str} {t : Tok} {v : V} {u : U} {tab : List (Str × U)} : e.key = .str k t → RelV v e.val → (∀ w mg P wd, VR ⟨K, mg, P, wd⟩ w u v) → TabOk K es tab → TabOk K (e :: es) ((k, u) :: tab)
theorem TabOk.i {K : PySem.W.Frag} {e : DictEntry} {es : List DictEntry} {k : Str} {t tk : Tok} {i : Int} {tab : List (Str × U)} (hk : e.key = .str k t) (hv : e.val = .int i tk) (r : TabOk K es tab) : TabOk K (e :: es) ((k, .int i) :: tab) := .cons hk (v := .int i) ⟨tk, hv⟩ (fun _ _ _ _ => .int i) r
theorem TabOk.s {K : PySem.W.Frag} {e : DictEntry} {es : List DictEntry} {k x : Str} {t tk : Tok} {tab : List (Str × U)} (hk : e.key = .str k t) (hv : e.val = .str x tk) (r : TabOk K es tab) : TabOk K (e :: es) ((k, .str x) :: tab) := .cons hk (v := .str x) ⟨tk, hv⟩ (fun _ _ _ _ => .str x) r
structure KTab (K : PySem.W.Frag) (wd : World) (a : Addr) (tab : List (Str × U)) : Prop where
  ex : ∃ (es : List DictEntry) (n : Nat), KDict K wd a es.toArray n ∧ TabOk K es tab
def lookT : List (Str × U) → Str → Option U
  | [], _ => none
  | (k, u) :: r, z => if k = z then some u else lookT r z
def fWget (tab : List (Str × U)) (f : FE) : FE := fun d S => (f d S).bind fun u S1 => match u with
  | .str z => .ok ((lookT tab z).getD .non) S1
  | _ => .bad
theorem cx_none {P : Program} {w : World} {outer : List Env} {H : Hp} {s : Shared} {e : Value} {s' : Shared} (h : L2.CX P w outer H s (fun _ _ _ => False) e s') : False := by
  obtain ⟨_, _, _, _, _, _, _, _, _, _, _, _, z⟩ := h
  exact z
def spLaw (K : PySem.W.Frag) (n : Nat) : Sp := fun vs H Q _ => ∃ (a : Addr) (ns : List Int), vs = [.ref a] ∧ Only H ∧ SqL K H a (ns.map V.int) ∧ ns.length ≤ n ∧ ∀ H', Q (.bl true) H'
theorem ints_vr {K : KM} {w : Wd} : ∀ ns : List Int, VRs K w (ns.map U.int) (ns.map V.int)
  | [] => .nil
  | n :: ns => .cons (.int n) (ints_vr ns)
theorem law_of {P : Program} {w : World} {K : PySem.W.Frag} {mg : Str → Option Value} {base : Heap} {k n : Nat} {f : Addr} {fd : FuncData} {ps : List Str} {g : List U → Sto → R U}
    (F : FnOk P w K mg base (L2.CX P w) k f fd ps (spOf ⟨K, mg, P, w⟩ 1 g)) (hg : ∀ ns : List Int, ns.length ≤ n → ∃ S', g [.frz (ns.map .int)] [] = .ok (.bl true) S') : FnOk P w K mg base (L2.CX P w) k f fd ps (spLaw K n) := by
  refine F.imp fun vs H Q E h => ?_
  obtain ⟨a, ns, rfl, ho, hq, hl, q⟩ := h
  obtain ⟨S', e⟩ := hg ns hl
  have fz : FzL K H a (ns.map V.int) := by
    rcases hq with (h | h) | h
    · rcases ho a with z | ⟨o, xs, z⟩
      · rw [h] at z; cases z
      · rw [h] at z; cases z
    · exact .inl h
    · exact .inr h
  refine ⟨⟨[], [], H, []⟩, [.frz (ns.map .int)], rfl, ⟨rfl, fun i j a o o' h1 => (by simp at h1), fun n a o h1 => (by simp at h1), fun a h => (by simp at h), fun a h => (by simp at h)⟩, .cons (.frz fz (ints_vr ns)) .nil, rfl, ?_⟩
  rw [e]
  intro w' v _ _ _ r
  cases r
  exact q _
end
end DL
set_option maxHeartbeats 4000000
namespace PySem
namespace OX
open PySem.W PySem.Calls PyProof.Rows PySem.HandSPX
structure NewF (O newId : String) (bm : List Value) : Prop where
  quiet : newId.startsWith "lifetime." = false
  split : splitId newId = some (O, "__new__")
  kind : builtinKind newId = some .builtinFn
  row : Manifest.signature? newId = some ⟨.any, O, O, .cls, [⟨"args", .varPos, false⟩, ⟨"kwargs", .varKw, false⟩]⟩
  has : bm.contains (.type O) = true
  noA : bm.contains (.type "AttributeError") = false
  noN : bm.contains (.type "NameError") = false
  canon : Manifest.canonical newId = Manifest.canonical "BaseException.__new__"
  ends : newId.endsWith ".__new__" = true
  owner : newId.dropRight 8 = O
  entry : entryFor table newId = some Builtin.«BaseException.__new__»
  star : (O != "*") = true
structure InitF (B initId : String) (bm : List Value) : Prop where
  plain : plainId initId = true
  entry : entryFor table initId = some Builtin.«BaseException.__init__»
  kind : builtinKind initId = some .slot
  split : splitId initId = some (B, "__init__")
  row : Manifest.signature? initId = some ⟨.positional, "*", B, .self, [⟨"args", .varPos, false⟩]⟩
  has : bm.contains (.type B) = true
  star : (B != "*") = true
theorem NewF.of {B n i : String} {bm : List Value} (F : ExcBaseFacts B n i bm) : NewF B n bm := ⟨F.quiet, F.newSplit, F.newKind, F.newRow, F.hasB, F.noAttr, F.noName, F.canon, F.ends, F.owner, F.entry, F.noStar⟩
theorem InitF.of {B n i : String} {bm : List Value} (F : ExcBaseFacts B n i bm) : InitF B i bm := ⟨F.init.plain, F.initEntry, F.initKind, F.initSplit, F.initRow, F.hasB, F.noStar⟩
theorem tail_KeyError_new : NewF "LookupError" "LookupError.__new__" [.type "KeyError", .type "LookupError", .type "Exception", .type "BaseException", .type "object"] :=
  ⟨by decide +kernel, by kernel_rfl, by kernel_rfl, by kernel_rfl, by decide +kernel, by decide +kernel, by decide +kernel, by decide +kernel, by decide +kernel, by decide +kernel, F.excBase_LookupError.entry, by decide +kernel⟩
theorem tail_KeyError_init : InitF "KeyError" "KeyError.__init__" [.type "KeyError", .type "LookupError", .type "Exception", .type "BaseException", .type "object"] :=
  ⟨excClass_KeyError.init.plain, excClass_KeyError.initEntry, by kernel_rfl, by kernel_rfl, by kernel_rfl, by decide +kernel, by decide +kernel⟩
theorem store_KeyError : StoreFacts "KeyError" [.type "KeyError", .type "LookupError", .type "Exception", .type "BaseException", .type "object"] "object.__setattr__" "object" where
  mro := by kernel_rfl
  slot := .of (owner := "object") (n := "__setattr__") (by rw [typeLookup_type, builtinLookup_eq_fast]; kernel_rfl) (by decide +kernel) (by decide +kernel) (by decide +kernel) (by first | exact .inl (by decide +kernel) | exact .inr (by decide +kernel)) (by rw [isSubtype_type]; kernel_rfl)
  entry := F.store_LookupError.entry
  kind := F.store_LookupError.kind
  split := F.store_LookupError.split
  hasOwner := by decide +kernel
  args := F.store_LookupError.args
  passes := fun self => by kernel_rfl
section
variable {P : Program} {wd : World} {Ar : Around} {Er : Value → Shared → Prop} {Rs : Result → Shared → Prop} {hp : Heap} {gs : Array GenState} {dn : Drawn} {tk : Nat} {so : OsState}
variable {nm qn : Str} {C N : Addr} {bs bm : List Value} {hd : Bool} {sn : List Str} {sb : List Value} {ab : Bool} {col : Option Bool} {dd : Option Addr} {e0 e1 e2 e3 e5 : Option Value} {O B newId initId : String}
theorem new_checked {M : Model} (F : NewF O newId bm) {vs : List Value} {Q : Unit → Shared → Prop} (hC : hp.get? C = some (excClassObj nm qn C N bs bm hd sn sb ab col dd e0 e1 e2 e3 e5 newId)) (hq : Q () ⟨hp, gs, dn, tk, so⟩) :
    wpAny M Ar (checkBuiltinCall newId ⟨.ref C :: vs, []⟩) Q Er ⟨hp, gs, dn, tk, so⟩ := by
  have c1 : (Value.ref C :: bm).contains (.type O) = true := by rw [List.contains_cons, F.has, Bool.or_true]
  have c2 := F.star
  simp only [checkBuiltinCall, F.kind, F.split, F.row]
  repeat (first | refine wpAny_loadPart_at hC ?_ | (refine wpAny_isSubtype_exc hC ?_; rw [c1]) | refine wpAny_staticBase_exc hC ?_ | refine wpAny_madeBy_exc hC ?_ | simp only [bne_self_eq_false, Bool.false_eq_true, if_false] | wp_step)
  exact hq
theorem init_checked {M : Model} (F : InitF B initId bm) {e : Addr} {oe : Obj} {vs : List Value} {Q : Unit → Shared → Prop} (hC : hp.get? C = some (excClassObj nm qn C N bs bm hd sn sb ab col dd e0 e1 e2 e3 e5 newId)) (he : hp.get? e = some oe) (hk : oe.cls = .ref C) (hq : Q () ⟨hp, gs, dn, tk, so⟩) :
    wpAny M Ar (checkBuiltinCall initId ⟨.ref e :: vs, []⟩) Q Er ⟨hp, gs, dn, tk, so⟩ := by
  have c1 : (Value.ref C :: bm).contains (.type B) = true := by rw [List.contains_cons, F.has, Bool.or_true]
  have c2 := F.star
  simp only [checkBuiltinCall, F.kind, F.split, F.row]
  repeat (first | (with_reducible refine wpAny_loadPart_at he ?_; rw [hk]) | with_reducible refine wpAny_loadPart_at hC ?_ | (with_reducible refine wpAny_isSubtype_exc hC ?_; rw [c1]) | wp_step)
  refine wpAny_onRaise ?_
  rw [show ∀ (a b : String) (n : Nat), Bind.check ⟨.positional, "*", B, .self, [⟨"args", .varPos, false⟩]⟩ a b n (List.map (fun x => x.fst) ({ pos := Value.ref e :: vs } : Args).kw) = pure () from fun a b n => check_star_args _ _ _ _ _ _]
  exact wpAny_pure hq
theorem new_made (F : NewF O newId bm) {vs : List Value} (hC : hp.get? C = some (excClassObj nm qn C N bs bm hd sn sb ab col dd e0 e1 e2 e3 e5 newId))
    (hq : Rs (.ok (.ret (.ref (hp.objs.size + 1)))) ⟨(hp.push (kdv_tup vs)).push (excO C hp.objs.size), gs, dn, tk, so⟩) (hl : vs.length ≤ sizeLine) : codeAny (model P wd) Ar (.builtin newId ⟨.ref C :: vs, []⟩) Rs ⟨hp, gs, dn, tk, so⟩ := by
  have c0 := F.ends
  have c1 : (Value.ref C :: bm).contains (.type O) = true := by rw [List.contains_cons, F.has, Bool.or_true]
  have c2 : (Value.ref C :: bm).contains (.type "AttributeError") = false := by rw [List.contains_cons, F.noA]; rfl
  have c3 : (Value.ref C :: bm).contains (.type "NameError") = false := by rw [List.contains_cons, F.noN]; rfl
  refine codeAny_builtinAt F.entry ?_
  unfold Builtin.«BaseException.__new__»
  refine wpAt_bind (show wpAt _ _ _ (stack >>= _) _ _ _ from ?_)
  refine wpAt_bind (wpAt_stack fun p q => wpAt_of_wpAny ?_)
  wp_walk
  refine wpAt_of_wpAny ?_
  rw [F.owner]
  repeat (first | with_reducible refine wpAny_madeHere_exc F.canon hC ?_ | with_reducible refine wpAny_loadPart_at hC ?_ | (with_reducible refine wpAny_isSubtype_exc hC ?_; first | rw [c1] | rw [c2] | rw [c3]) | wp_step)
  show Rs _ _
  rw [Heap.size_push]
  exact hq
theorem type_called (F : NewF O newId bm) {vs : List Value} {fI : Addr} {Q : Fin → Shared → Prop} (hC : hp.get? C = some (excClassObj nm qn C N bs bm hd sn sb ab col dd e0 e1 e2 e3 e5 newId))
    (hi : Looks (model P wd) hp (typeLookup (.ref C) "__init__") (some (.ref fI))) (hb : ∀ self, Looks (model P wd) hp (bindSpecial (.ref fI) self) (.ref fI, [self])) (hl : vs.length ≤ sizeLine)
    (hq : codeAny (model P wd) Ar (.call (.ref fI) ⟨.ref (hp.objs.size + 1) :: vs, []⟩) (fun r s' => match r with
      | .ok (.ret v) => v = .none ∧ Q (.done (.ret (.ref (hp.objs.size + 1)))) s'
      | .ok _ => False
      | .error e => Er e s') ⟨(hp.push (kdv_tup vs)).push (excO C hp.objs.size), gs, dn, tk, so⟩) :
    wpAny (model P wd) Ar (Builtin.«type.__call__» ⟨.ref C :: vs, []⟩) Q Er ⟨hp, gs, dn, tk, so⟩ := by
  repeat (first | with_reducible refine wpAny_loadPart_at hC ?_ | with_reducible refine wpAny_madeBy_exc hC ?_ | wp_step)
  refine codeAny_call_builtin_code (Code.quiet_builtin _ F.quiet) (new_checked F hC (new_made F hC (show wpAny _ _ _ _ _ _ from ?_) hl))
  have k : ∀ b o, hp.get? b = some o → ((hp.push (kdv_tup vs)).push (excO C hp.objs.size)).get? b = some o := fun b o q => Heap.get?_push_of_some _ (Heap.get?_push_of_some _ q)
  have hC' := k _ _ hC
  have hg : ((hp.push (kdv_tup vs)).push (excO C hp.objs.size)).get? (hp.objs.size + 1) = some (excO C hp.objs.size) := by heap_get
  have cC : (Value.ref C :: bm).contains (.ref C) = true := by simp
  have l1 := hi.keeps k
  have l2 := (hb (.ref (hp.objs.size + 1))).keeps k
  unfold isInstance
  repeat (first | with_reducible refine wpAny_loadPart_at hg ?_ | (with_reducible refine wpAny_isSubtype_exc hC' ?_; rw [cC]) | wp_step)
  refine (show wpAny _ _ (typeLookup (.ref C) _) _ _ _ from l1.at (wpAny_holding (wpAny_bind (l2.at (wpAny_bind (wpAny_call (codeAny_mono hq fun r s' z => ?_)))))))
  rcases r with e | (v | _ | _ | _) <;> first | exact z | exact z.elim | skip
  obtain ⟨rfl, z⟩ := z
  first
    | exact wpAny_pure (wpAny_pure z)
    | (wp_walk; exact z)
theorem class_called (F : NewF O newId bm) {vs : List Value} {fI : Addr} (hC : hp.get? C = some (excClassObj nm qn C N bs bm hd sn sb ab col dd e0 e1 e2 e3 e5 newId))
    (hi : Looks (model P wd) hp (typeLookup (.ref C) "__init__") (some (.ref fI))) (hb : ∀ self, Looks (model P wd) hp (bindSpecial (.ref fI) self) (.ref fI, [self])) (hl : vs.length ≤ sizeLine)
    (hq : codeAny (model P wd) (Ar.under (.builtin "type.__call__" ⟨.ref C :: vs, []⟩)) (.call (.ref fI) ⟨.ref (hp.objs.size + 1) :: vs, []⟩) (InitBack (hp.objs.size + 1) Rs) ⟨(hp.push (kdv_tup vs)).push (excO C hp.objs.size), gs, dn, tk, so⟩) :
    codeAny (model P wd) Ar (.call (.ref C) ⟨vs, []⟩) Rs ⟨hp, gs, dn, tk, so⟩ := by
  have g1 := tc_lookup
  have g2 := tc_bind (.ref C)
  have g3 : (⟨hp, gs, dn, tk, so⟩ : Shared).TypeIs (.ref C) "type" := ⟨_, hC, rfl⟩
  refine codeAny_of_tree (show wpAny _ _ (callAny (.ref C) _) _ _ _ from ?_)
  repeat (any_goals (first | assumption | with_reducible refine wpAny_loadPart_at hC ?_ | wp_step))
  refine ⟨rfl, codeAny_call_builtin_at (Code.quiet_builtin _ (by decide +kernel)) entry_typeCall (wpAny_check_type_call_sub hC (type_called F hC hi hb hl (codeAny_mono hq fun r s' z => ?_)))⟩
  rcases r with e | (v | _ | _ | _) <;> exact z
theorem base_init (F : InitF B initId bm) {e t0 : Addr} {vs : List Value} (hC : hp.get? C = some (excClassObj nm qn C N bs bm hd sn sb ab col dd e0 e1 e2 e3 e5 newId)) (he : hp.get? e = some (excO C t0)) (hl : vs.length ≤ sizeLine)
    (hq : ∀ h' t1, (∀ b o, b ≠ e → hp.get? b = some o → h'.get? b = some o) → h'.get? e = some (excO C t1) → Rs (.ok (.ret .none)) ⟨h', gs, dn, tk, so⟩) : codeAny (model P wd) Ar (.call (.builtin initId) ⟨.ref e :: vs, []⟩) Rs ⟨hp, gs, dn, tk, so⟩ := by
  refine codeAny_call_builtin F.plain F.entry (init_checked F hC he rfl ?_)
  wp_walk
  refine hq _ hp.objs.size (fun b o nb q => ?_) ?_
  · rw [Heap.get?_update_other _ _ (Ne.symm nb)]; exact Heap.get?_push_of_some _ q
  · rw [Heap.get?_update_self _ (Heap.get?_push_of_some _ he) rfl]; rfl
end
end OX
end PySem
set_option maxHeartbeats 4000000
namespace PySem
namespace OX
open PySem.W PySem.Calls PyProof.Rows PySem.HandSPX
open Builtin Builtin.ObjectAttr
theorem first_field {P : Program} {wd : World} {Ar : Around} {Rs : Result → Shared → Prop} {hp : Heap} {gs : Array GenState} {dn : Drawn} {t : Nat} {so : OsState} {K : Frag} {f : Str} {tk : Tok} {v : Value} {x C : Addr} {fv : Array Value} {B : String} {bm : List Value}
    (SF : StoreFacts B bm "object.__setattr__" "object") (X : K.In hp) (hx : hp.get? x = some { cls := .ref C, data := .fields fv }) (ho : excOver K C bm = true) (hd : hasDictIn K C = true) (ha : findIn K (.ref C) f = some none)
    (hq : ∀ h' tk' dx, (∀ b o, b ≠ x → hp.get? b = some o → h'.get? b = some o) → hp.objs.size ≤ dx → dx ≠ x → h'.get? x = some { cls := .ref C, dict := some dx, data := .fields fv } →
      h'.Ns1 dx (fun y => if y = f then some v else none) → Rs (.ok (.ret .none)) ⟨h', gs, dn, tk', so⟩) :
    codeAny (model P wd) Ar (.call (.builtin "object.__setattr__") ⟨[.ref x, .str f tk, v], []⟩) Rs ⟨hp, gs, dn, t, so⟩ := by
  have xs : x ≠ hp.objs.size := Nat.ne_of_lt (Heap.lt_size hx)
  obtain ⟨cd, hc, hd'⟩ := any_some hd
  have lc : Looks (model P wd) hp (classData C) cd := looks_clsIn X hc
  refine osa_openX (od := none) (r := none) SF X ⟨hx, rfl, rfl, trivial⟩ ho (by unfold takerIn; rw [ha]; rfl) fun b => ?_
  obtain ⟨nm, bs, mro, ns, qn, hd2, sn, sb, ab, col, del⟩ := cd
  dsimp only at hd'
  subst hd'
  show wpAny _ _ (storeInOwnDict (.ref x) (.ref C) (.str f tk) f v b) _ _ _
  unfold storeInOwnDict ownDictForStores
  repeat (first | with_reducible refine store_in_new ?_ ?_ | with_reducible refine wpAny_loadPart_at hx ?_ | with_reducible refine lc.at ?_ | wp_step)
  · exact ⟨_, #[], _, (Heap.get?_update_ne _ _ _ _ xs.symm).trans (Heap.get?_push_at rfl rfl), rfl, fun e he => absurd he (by simp), fun _ => rfl⟩
  · intro h' tk' hn hs
    have hx1 : (hp.push { cls := .type "dict", data := .dict #[] }).get? x = some { cls := .ref C, data := .fields fv } := Heap.get?_push_of_some _ hx
    refine hq h' tk' hp.objs.size (fun b o nb q => ?_) (Nat.le_refl _) xs.symm ((hs.2 x xs).trans (Heap.get?_update_self _ hx1 rfl)) hn
    exact (hs.2 b (Nat.ne_of_lt (Heap.lt_size q))).trans ((Heap.get?_update_ne _ _ _ _ nb).trans (Heap.get?_push_of_some _ q))
end OX
end PySem
set_option maxHeartbeats 4000000
namespace DL
open PySem PySem.Spec L2 PyProof.Rows
structure BaseX (B O newId initId : String) (bm : List Value) : Prop where
  n : OX.NewF O newId bm
  i : OX.InitF B initId bm
  s : StoreFacts B bm "object.__setattr__" "object"
  ty : typeOf (.type B) = pure (.type "type")
  boot : bootBuiltins B = some (.type B)
  nn : (Str.ofString B) ≠ "__name__"
  nd : ((Str.ofString B) == ("__debug__" : Str)) = false
  stub : Manifest.isStub B = false
  hand : PySem.W.handedIn (.builtin initId) = true
theorem bx_KeyError : BaseX "KeyError" "LookupError" "LookupError.__new__" "KeyError.__init__" [.type "KeyError", .type "LookupError", .type "Exception", .type "BaseException", .type "object"] := ⟨OX.tail_KeyError_new, OX.tail_KeyError_init, OX.store_KeyError, by kernel_rfl, by decide +kernel, by decide, by decide, by decide +kernel, by decide +kernel⟩
structure OxC (K : PySem.W.Frag) (C : Addr) (newId : String) (bm : List Value) : Prop where
  cls : ∃ nm q N bs sn sub ab col dd k0 k1 k2 k3 k5, K.lookup C = some (excClassObj nm q C N bs bm true sn sub ab col dd k0 k1 k2 k3 k5 newId)
  sa : PySem.W.findIn K (.ref C) "__setattr__" = some (some (.builtin "object.__setattr__"))
  exC : PySem.W.subIn K (.ref C) (.type "BaseException") = some true
  tyC : PySem.W.typeIn K (.ref C) = some (.type "type")
  kC : PySem.W.keepIn K (.ref C) = true
  ov : PySem.W.excOver K C bm = true
  hd : PySem.W.hasDictIn K C = true
section
variable {X : Cx} {pins : List (Addr × Obj)} {σ : L2.St} {H : Hp} {s : Shared} {a C : Addr} {f : Str} {y : V} {u : Value} {A : Around} {B O newId initId : String} {bm : List Value}
theorem ox_store {Q : Unit → Shared → Prop} {E : Value → Shared → Prop} (b : BaseX B O newId initId bm) (T : OxC X.K C newId bm) (I : Inv X pins σ H s) (e : H a = some (exo a C none)) (hno : PySem.W.findIn X.K (.ref C) f = some none) (ry : RelV y u)
    (h : ∀ dx s', H dx = none → dx ≠ a → Inv X pins σ (upd (upd H dx (exd dx [(f, y)])) a (exo a C (some dx))) s' → Q () s') : wpAny (model X.prog X.w) A (setAttr (.ref a) f u) Q E s := by
  obtain ⟨t1, ho⟩ := exo_at I.hok e
  obtain ⟨hp, gs, dn, tk, so⟩ := s
  refine PySem.W.set_plain I.kIn (ox := { cls := .ref C, dict := none, data := .fields #[.ref t1, .none, .none, .none, .bool false, .none] }) (od := none) ⟨ho, rfl, rfl, trivial⟩ T.sa (OX.first_field b.s I.kIn ho T.ov T.hd hno fun h' tk' dx k dn' dne hx hn => ?_)
  have fresh : H dx = none := I.hok.fresh dn'
  have old : ∀ {c : Addr} {o : Obj}, hp.get? c = some o → c ≠ dx := fun {c o} q => Nat.ne_of_lt (Nat.lt_of_lt_of_le (Heap.lt_size q) dn')
  have nota : ∀ {c : Addr}, H c = none → c ≠ a := fun {c} n z => by rw [z, e] at n; cases n
  have U : Un X.fs [] H (upd (upd H dx (exd dx [(f, y)])) a (exo a C (some dx))) hp h' := {
    keep := fun c o q n _ _ => k c o (nota n) q
    slot := fun c o q n _ _ => ⟨o.slots, k c o (nota n) q⟩
    free := fun c o q n _ => by rw [upd_ne (nota n), upd_ne (old q)]; exact n
    there := fun c o q _ => by
      by_cases hc : c = a
      · subst hc; exact ⟨_, hx⟩
      · exact ⟨o, k c o hc q⟩
    tups := fun c xs q => by rw [upd_ne (at_ne e q exo_tup), upd_ne (ne_of_none q fresh)]; exact q
    frzs := fun c o v q => by rw [upd_ne (at_ne e q exo_frz), upd_ne (ne_of_none q fresh)]; exact q
    tbls := fun c ps q => ⟨#[], by rw [upd_ne (at_ne e q exo_tbl), upd_ne (ne_of_none q fresh), q]; simp⟩ }
  refine h dx _ fresh dne (I.un (t' := tk') U fun c o q => ?_)
  by_cases hc : c = a
  · subst hc
    rw [upd_same] at q
    cases q
    exact exo_ok hx
  rw [upd_ne hc] at q
  by_cases hd : c = dx
  · subst hd
    rw [upd_same] at q
    cases q
    exact exd_ok hn (relO_put (fs := []) ry fun g => True.intro)
  rw [upd_ne hd] at q
  refine (I.hok c o q).stay (fun c' v hc' z => k c' v ?_ z) (fun c' hc' => ?_) (fun c' xs hc' => ?_)
  · rcases hc' with hc' | hc'
    · rw [hc']; exact hc
    · exact at_ne e hc' exo_own
  · rw [upd_ne (at_ne e hc' exo_own), upd_ne (ne_of_none hc' fresh)]; exact hc'
  · rw [upd_ne (at_ne e hc' exo_tup), upd_ne (ne_of_none hc' fresh)]; exact hc'
theorem ox_init {us : List Value} {Q : Value → Shared → Prop} {E : Value → Shared → Prop} (b : BaseX B O newId initId bm) (T : OxC X.K C newId bm) (I : Inv X pins σ H s) (e : H a = some (exo a C none)) (hl : us.length ≤ sizeLine) (h : ∀ s', Inv X pins σ H s' → Q .none s') :
    wpAny (model X.prog X.w) A (call (.builtin initId) (.ref a :: us)) Q E s := by
  obtain ⟨nm, q, N, bs, sn, sub, ab, col, dd, k0, k1, k2, k3, k5, hC⟩ := T.cls
  obtain ⟨t1, ho⟩ := exo_at I.hok e
  obtain ⟨hp, gs, dn, tk, so⟩ := s
  refine wpAny_call (OX.base_init b.i (I.kIn _ _ hC) ho hl fun h' t2 k hx => ?_)
  have J := I.write (t' := tk) (x := a) (e := a) (o := exo a C none) (by rw [e]; exact True.intro) (.inl rfl) k ⟨_, hx⟩ (exo_ok hx)
  rw [show upd H a (exo a C none) = H from by
    funext c
    by_cases hc : c = a
    · rw [hc, upd_same, e]
    · rw [upd_ne hc]] at J
  exact h _ J
end
def tBI (C : Addr) (ta : TA) : TE := fun σ H Q => ta σ H fun vs H1 => ∃ (a : Addr) (ws : List V), vs = .ref a :: ws ∧ ws.length ≤ 1000 ∧ H1 a = some (exo a C none) ∧ Q .non H1
def tOS (C : Addr) (f : Str) (to te : TE) : TS := fun D σ H => te σ H fun y H1 => to σ H1 fun x H2 => ∃ a : Addr, x = .ref a ∧ H2 a = some (exo a C none) ∧ ∀ dx, H2 dx = none → dx ≠ a → D.nx σ (upd (upd H2 dx (exd dx [(f, y)])) a (exo a C (some dx)))
section
variable {X : Cx} {o e : Expr} {es : List Expr} {to te : TE} {ta : TA} {f : Str} {p p' p1 p2 pos : Pos} {C : Addr} {B O newId initId : String} {bm : List Value}
theorem pe_binit {pl : Sem Bool} (b : BaseX B O newId initId bm) (T : OxC X.K C newId bm) (hg : Gl X B) (hm : X.mg B = none) (vV : PySem.W.findCls X.K (.type B) (.type "type") "__init__" = some (.val (.builtin initId))) (ha : PA X (e :: es) ta)
    (hc : eval (.Call (.Attribute (.Name B p1) "__init__" p2) (e :: es) [] pos) X.env = (do
      let ov ← eval (.Name B p1) X.env
      standAt p2.atName
      let (f, first) ← holding [ov] (getMethod ov "__init__" pl)
      callWith pos f first (backTo pos (starEach (e :: es) X.env)) (backToKw pos (keywordEach [] X.env))) := by rfl)
    (he : starEach (e :: es) X.env = (false, eval e X.env) :: starEach es X.env := by rfl) (hpl : (backTo pos (starEach es X.env)).any (·.1) = false := by rfl) :
    PE X (.Call (.Attribute (.Name B p1) "__init__" p2) (e :: es) [] pos) (tBI C ta) := by
  refine ⟨fun pins s σ H Q I h => ?_⟩
  refine PySem.W.methodCall_KW (ld_blt I hg hm b.boot ?_ b.nn b.nd) hc
  obtain ⟨m, fr⟩ := I.fr
  refine PySem.W.method_type fr I.ok.mod.kin b.ty b.stub vV b.hand ?_
  show wpAny _ _ (callWith pos (Value.builtin initId) [] (backTo pos (starEach (e :: es) X.env)) []) _ _ _
  refine PyProof.Rows.callWith_method1 (thn (ha.run pos pins _ σ H _ (I.tok _) h) fun us s1 ⟨vs, H1, I1, r1, a, ws, ev, hl, ea, q⟩ => ?_) he hpl
  subst ev
  cases r1 with
  | @cons _ u0 _ ur ra rr =>
    obtain rfl : u0 = Value.ref a := ra
    exact ox_init b T I1 ea (by rw [← Paired.length rr, sizeLine_eq]; omega) fun s' J => ⟨.non, H1, J, rfl, q⟩
theorem ps_oset (b : BaseX B O newId initId bm) (T : OxC X.K C newId bm) (hno : PySem.W.findIn X.K (.ref C) f = some none) (ho : PE X o to) (he : PE X e te) (hs : swapsWith e (some (.Attribute o f p')) pos.line X.env = pure false := by rfl) : PS X (.Assign [.Attribute o f p'] e pos) (tOS C f to te) := by
  refine ⟨fun pins s σ H D I h => ?_⟩
  refine plainObj_wpAny_Assign_Attribute (thn (he.run pins s σ H _ I h) fun v s1 ⟨y, H1, I1, r1, q1⟩ => thn (ho.run pins s1 σ H1 _ I1 q1) fun u s2 ⟨x, H2, I2, r2, a, ex, ea, q⟩ => ?_) hs
  subst ex
  obtain rfl : u = Value.ref a := r2
  exact ox_store b T I2 ea hno r1 fun dx s' n ne J => ⟨σ, _, J, q dx n ne⟩
def spI (C : Addr) (f : Str) : Sp := fun vs H Q _ => ∃ (a : Addr) (y : V), vs = [.ref a, y] ∧ H a = some (exo a C none) ∧ ∀ dx, H dx = none → dx ≠ a → Q .non (upd (upd H dx (exd dx [(f, y)])) a (exo a C (some dx)))
end
theorem exv_ok {P : Program} {w : World} {H : Hp} {h : Heap} {a C d : Addr} {oe : Obj} {vs : Array Value} (he : h.get? a = some oe) (hz : Zc (.ref C) (some d) oe) (hd : oe.data = .fields vs) : ObjOk P w H h a (exv a C d) :=
  ⟨⟨oe, vs, he, hz, hd⟩, ⟨_, he⟩, fun h1 h2 z k => by
    obtain ⟨o, v, q, q2⟩ := z
    exact ⟨o, v, k _ q, q2⟩⟩
theorem exv_at {P : Program} {w : World} {H : Hp} {h : Heap} {a C d : Addr} (hok : HOk P w H h) (he : H a = some (exv a C d)) : ∃ (oe : Obj) (vs : Array Value), h.get? a = some oe ∧ Zc (.ref C) (some d) oe ∧ oe.data = .fields vs := by
  have x : ObjOk P w H h a (.ext fun h => ∃ (oe : Obj) (vs : Array Value), h.get? a = some oe ∧ Zc (.ref C) (some d) oe ∧ oe.data = .fields vs) := hok a _ he
  exact x.1
section
variable {X : Cx} {x xi f : Str} {C fI : Addr} {k : Nat} {fd : FuncData} {e : Expr} {ta : TA} {p pos : Pos} {B O newId initId : String} {bm : List Value}
def Made (X : Cx) (pins : List (Addr × Obj)) (σ : L2.St) (C : Addr) (f : Str) (y : V) (H1 : Hp) (a : Addr) (hp : Heap) (s' : Shared) : Prop :=
  ∃ (d : Addr) (hp2 : Heap), (∃ s2 : Shared, s2.heap = hp2 ∧ s'.os = s2.os ∧ Inv X pins σ (upd H1 a (exo a C none)) s2) ∧ hp.objs.size ≤ a ∧ d ≠ a ∧ H1 d = none ∧ (∀ b o, hp.get? b = some o → hp2.get? b = some o) ∧ Un (frs X.stack) [] (upd H1 a (exo a C none)) (upd (upd (upd H1 a (exo a C none)) d (exd d [(f, y)])) a (exo a C (some d))) hp2 s'.heap ∧
    HOk X.prog X.w (upd (upd (upd H1 a (exo a C none)) d (exd d [(f, y)])) a (exo a C (some d))) s'.heap ∧ AllBare s'.gens
theorem ox_made (b : BaseX B O newId initId bm) (T : OxC X.K C newId bm) (iC : PySem.W.findIn X.K (.ref C) "__init__" = some (some (.ref fI))) (tI : PySem.W.typeIn X.K (.ref fI) = some (.type "function"))
    (F1 : FnOk X.prog X.w X.K X.mg X.base (L2.CX X.prog X.w) k fI fd ["self", xi] (spI C f)) (hr : Room (k + 1) X.A) (hb : Binds X.K fd ["self", xi] []) (hg : Gl X x) (hm : X.mg x = some (.ref C)) (he : PA X [e] ta)
    {pins : List (Addr × Obj)} {s : Shared} {σ : L2.St} {H : Hp} {Q : V → Hp → Prop} {R : Value → Shared → Prop} (I : Inv X pins σ H s) (h : ta σ H fun vs H1 => ∃ y, vs = [y] ∧ Q y H1)
    (fin : ∀ (y : V) (H1 : Hp) (s1 : Shared) (a : Addr) (s' : Shared), Inv X pins σ H1 s1 → Q y H1 → s'.os = s1.os → Made X pins σ C f y H1 a s1.heap s' → R (.ref a) s')
    (hdb : (x == ("__debug__" : Str)) = false := by decide) (hst : starEach [e] X.env = (false, eval e X.env) :: starEach [] X.env := by rfl) (hpl : (backTo pos (starEach [] X.env)).any (·.1) = false := by rfl) :
    wpAny (model X.prog X.w) X.A (eval (.Call (.Name x p) [e] [] pos) X.env) R X.xe s := by
  obtain ⟨nm, q, N, bs, sn, sub, ab, col, dd, k0, k1, k2, k3, k5, hC⟩ := T.cls
  refine wpAny_Call_Name_kw (ld_glob I hg hm ?_ hdb)
  refine PySem.W.callWith_K (h₀ := X.base) I.ok.mod.kin T.kC (thn (he.run pos pins s σ H (fun vs H1 => ∃ y, vs = [y] ∧ Q y H1) I h) fun us s1 ⟨vs, H1, I1, r1, y, ey, q1⟩ => ⟨I1.kIn, ?_⟩) hst hpl
  subst ey
  show wpAny _ _ (call (.ref C) us) _ _ _
  obtain ⟨hp, gs, dn, tk, so⟩ := s1
  have hn : H1 (hp.objs.size + 1) = none := I1.hok.fresh (Nat.le_succ _)
  have kk : ∀ c o, hp.get? c = some o → ((hp.push (PySem.W.kdv_tup us)).push (PySem.HandSPX.excO C hp.objs.size)).get? c = some o := fun c o z => Heap.get?_push_of_some _ (Heap.get?_push_of_some _ z)
  have I2 : Inv X pins σ (upd H1 (hp.objs.size + 1) (exo (hp.objs.size + 1) C none)) ⟨(hp.push (PySem.W.kdv_tup us)).push (PySem.HandSPX.excO C hp.objs.size), gs, dn, tk, so⟩ := I1.laid (t' := tk) (a := hp.objs.size + 1) (o := exo (hp.objs.size + 1) C none) (h' := (hp.push (PySem.W.kdv_tup us)).push (PySem.HandSPX.excO C hp.objs.size)) kk (Nat.le_succ _) (exo_ok (by heap_get))
  have r2 : Vals [V.ref (hp.objs.size + 1), y] (Value.ref (hp.objs.size + 1) :: us) := .cons rfl r1
  have hlen : us.length = 1 := (Paired.length r1).symm
  refine wpAny_call (OX.class_called b.n (I1.kIn _ _ hC) (PySem.W.looks_findIn I1.kIn iC) (fun self => PySem.W.bind_fn I1.kIn self tI) (by rw [hlen]; decide)
    (codeAny_mono (F1.run _ X.stack _ _ ⟨Value.ref (hp.objs.size + 1) :: us, []⟩ (Value.ref (hp.objs.size + 1) :: us) _ (fun v H2 => v = .non ∧ ∃ d, d ≠ hp.objs.size + 1 ∧ H1 d = none ∧ H2 = upd (upd (upd H1 (hp.objs.size + 1) (exo (hp.objs.size + 1) C none)) d (exd d [(f, y)])) (hp.objs.size + 1) (exo (hp.objs.size + 1) C (some d))) (fun _ _ _ => False) (hr.make C us []) (I2.env0.make C us []) ?_ r2 ?_) fun r s' hq' => ?_))
  · have z := hb _ (Value.ref (hp.objs.size + 1) :: us) I2.kIn (by simp [hlen])
    simpa using z
  · refine ⟨hp.objs.size + 1, y, rfl, upd_same, fun dx n ne => ⟨rfl, dx, ne, ?_, rfl⟩⟩
    rw [upd_ne ne] at n
    exact n
  · cases r with
    | error er => exact (cx_none hq').elim
    | ok fl =>
      cases fl with
      | ret u =>
        obtain ⟨v, H2, os2, bare2, un2, hok2, rv, ev, d, hda, hd1, e2⟩ := hq'
        subst ev
        subst e2
        exact ⟨rv, fin y H1 _ _ s' I1 q1 os2 ⟨d, _, ⟨_, rfl, os2, I2⟩, Nat.le_succ _, hda, hd1, kk, un2, hok2, bare2⟩⟩
      | next => exact False.elim hq'
      | brk => exact False.elim hq'
      | cont => exact False.elim hq'
def tMkX (C : Addr) (f : Str) (ta : TA) : L2.St → Hp → XK → Prop := fun σ H Q => ta σ H fun vs H1 => ∃ y, vs = [y] ∧ ∀ d, H1 d = none → Q (.ref C) (some d) (upd H1 d (.xd [(f, y)]))
theorem pmk_ox (b : BaseX B O newId initId bm) (T : OxC X.K C newId bm) (iC : PySem.W.findIn X.K (.ref C) "__init__" = some (some (.ref fI))) (tI : PySem.W.typeIn X.K (.ref fI) = some (.type "function"))
    (F1 : FnOk X.prog X.w X.K X.mg X.base (L2.CX X.prog X.w) k fI fd ["self", xi] (spI C f)) (hr : Room (k + 1) X.A) (hb : Binds X.K fd ["self", xi] []) (hg : Gl X x) (hm : X.mg x = some (.ref C)) (he : PA X [e] ta)
    (hdb : (x == ("__debug__" : Str)) = false := by decide) (hst : starEach [e] X.env = (false, eval e X.env) :: starEach [] X.env := by rfl) (hpl : (backTo pos (starEach [] X.env)).any (·.1) = false := by rfl) :
    PMk X (.Call (.Name x p) [e] [] pos) (tMkX C f ta) := by
  intro pins s σ H Q I h
  refine ox_made b T iC tI F1 hr hb hg hm he I h (fun y H1 s1 a s' I1 q ho hM => ?_) hdb hst hpl
  obtain ⟨d, hp2, ⟨s2, e2, os2, I2⟩, ha, hda, hd1, kk, un, hok, bare⟩ := hM
  obtain ⟨hp, gs, dn, tk, so⟩ := s1
  obtain ⟨h2, g2, d2, t2, o2⟩ := s'
  have hn : H1 a = none := I1.hok.fresh ha
  refine mk_end (raises_own T.exC T.tyC) I1 ha kk un hok ho bare upd_same (by rw [upd_ne hda, upd_same]) hd1 ?_
  rw [show upd (del (upd (upd (upd H1 a (exo a C none)) d (exd d [(f, y)])) a (exo a C (some d))) a) d (.xd [(f, y)]) = upd H1 d (.xd [(f, y)]) from ?_]
  · exact q d hd1
  · funext c
    by_cases hc : c = d
    · rw [hc, upd_same, upd_same]
    · rw [upd_ne hc, upd_ne hc]
      by_cases hca : c = a
      · rw [hca, del_same, hn]
      · rw [del_ne hca, upd_ne hca, upd_ne hc, upd_ne hca]
end
end DL
set_option maxHeartbeats 4000000
namespace DL
open PySem PySem.Spec L2 PyProof.Rows
section
variable {X : Cx} {Wx : WX} {e : Expr} {pos p : Pos}
theorem exv_inst {pins : List (Addr × Obj)} {σ : L2.St} {H : Hp} {s : Shared} {a C d : Addr} {fs : List (Str × V)} (I : Inv X pins σ H s) (ea : H a = some (exv a C d)) (ed : H d = some (.xd fs)) :
    ∃ (oe od : Obj), PySem.W.InstAt s.heap a oe C (some od) ∧ ∀ (f : Str) (v : V), fs.lookup f = some v → ∃ u, RelV v u ∧ PySem.W.lookIn f od = some (some u) := by
  obtain ⟨oe, vs, ho, hz, hd⟩ := exv_at I.hok ea
  have hx : ObjOk X.prog X.w H s.heap d (.xd fs) := I.hok d _ ed
  obtain ⟨mA, hns, hr⟩ := hx
  obtain ⟨od, hod, hl⟩ := lookIn_ns hns
  refine ⟨oe, od, ⟨ho, hz.1, by unfold PySem.W.notCls; rw [hd] <;> rfl, by rw [hz.2]; exact hod⟩, fun f v l => ?_⟩
  obtain ⟨u, hu, ru⟩ := RelO.some_of (v := v) (o := mA f) (by rw [← l]; exact hr f)
  exact ⟨u, ru, by rw [hl, hu]⟩
def tFld (K : PySem.W.Frag) (f : Str) (te : TE) : TE := fun σ H Q => te σ H fun x H1 => ∃ (a C d : Addr) (fs : List (Str × V)) (v : V), x = .ref a ∧ H1 a = some (exv a C d) ∧ H1 d = some (.xd fs) ∧ fs.lookup f = some v ∧ XfC K C ∧ PySem.W.findIn K (.ref C) f = some none ∧ Q v H1
theorem pe_fld {te : TE} {f : Str} (he : PE X e te) (hb : attributeBase e f X.env (eval e X.env) = eval e X.env := by rfl) : PE X (.Attribute e f pos) (tFld X.K f te) := by
  refine ⟨fun pins s σ H Q I h => ?_⟩
  refine attr_of hb (thn (he.run pins s σ H _ I h) fun u s1 ⟨x, H1, I1, rx, a, C, d, fs, v, ex, ea, ed, l, T, hno, q⟩ => ?_)
  subst ex
  obtain rfl : u = Value.ref a := rx
  obtain ⟨oe, od, J, look⟩ := exv_inst I1 ea ed
  obtain ⟨u, ru, hu⟩ := look f v l
  exact HandSPX.exc_get I1.kIn J T.ga T.gg T.exC (PySem.W.findObj_own T.hdC hno rfl hu) (handed_of ru) ⟨v, H1, I1.tok _, ru, q⟩
def fFld (cs : List Str) (f : Str) (fe : FE) : FE := fun d S => (fe d S).bind fun u S1 => match u with
  | .exc c g v => if cs.contains c && decide (g = f) then .ok v S1 else .bad
  | _ => .bad
theorem se_fld {cs : List Str} {f : Str} {fe : FE} (he : SimE X Wx e fe) (hc : ∀ c ∈ cs, ∀ C, X.mg c = some (.ref C) → XfC X.K C ∧ PySem.W.findIn X.K (.ref C) f = some none) (hb : attributeBase e f X.env (eval e X.env) = eval e X.env := by rfl) : SimE X Wx (.Attribute e f pos) (fFld cs f fe) := by
  obtain ⟨t, pt, he⟩ := he.out
  refine SimE.mk (pe_fld pt hb) (fun w d σ Q s e h => ?_)
  refine he w d σ _ s e ((Pst.of_bind h).mono (fun u S1 h1 w1 v eS st s1 r => ?_) fun _ _ q => q)
  subst eS
  cases r with
  | @exc a d C v c g u ha hd hm rv =>
    have h9 : Pst (if cs.contains c && decide (g = f) then .ok u w1.S else .bad) (OkE X w Q) (XPost X Wx σ w) := h1
    clear h1
    cases hb : cs.contains c && decide (g = f) with
    | false => rw [hb] at h9; exact h9.elim
    | true =>
      rw [hb, if_pos rfl] at h9
      rw [Bool.and_eq_true] at hb
      obtain ⟨h2, h3⟩ := hb
      have h3 := of_decide_eq_true h3
      subst h3
      obtain ⟨T, hno⟩ := hc c (List.contains_iff_mem.mp h2) C hm
      exact ⟨a, C, d, _, v, rfl, ha, hd, by simp [List.lookup], T, hno, h9 w1 v rfl st s1 rv⟩
  | _ => exact h1.elim
abbrev IsTab := List ((Str × (Str ⊕ String)) × Bool)
def lookI : IsTab → Str → Str ⊕ String → Option Bool
  | [], _, _ => none
  | ((c, k), b) :: r, x, y => if c = x ∧ k = y then some b else lookI r x y
structure IsOk (K : PySem.W.Frag) (mg : Str → Option Value) (tab : IsTab) : Prop where
  own : ∀ c c2 b, lookI tab c (.inl c2) = some b → ∀ C C2, mg c = some (.ref C) → mg c2 = some (.ref C2) → ExcC K C ∧ PySem.W.kitOne K (.ref C) (.ref C2) = some b
  blt : ∀ c n b, lookI tab c (.inr n) = some b → ∀ C, mg c = some (.ref C) → ExcC K C ∧ PySem.W.kitOne K (.ref C) (.type n) = some b
variable {x xi f : Str} {C fI : Addr} {k : Nat} {fd : FuncData} {B O newId initId : String} {bm : List Value}
def fMkx (c f : Str) (fa : FA) : FE := fun d S => (fa d S).bind fun us S1 => match us with
  | [u] => .ok (.exc c f u) S1
  | _ => .bad
def fRaise (c f : Str) (fa : FA) : FS := fun d S => toS d (fa d S) fun us S1 => match us with
  | [u] => .ok (.ex ⟨c, f, u⟩ d) S1
  | _ => .bad
structure ExcOk (P : Program) (w : World) (K : PySem.W.Frag) (mg : Str → Option Value) (base : Heap) (k : Nat) (x f : Str) : Prop where
  ex : ∃ (C fI : Addr) (xi : Str) (fd : FuncData) (B O newId initId : String) (bm : List Value), BaseX B O newId initId bm ∧ OxC K C newId bm ∧ PySem.W.findIn K (.ref C) "__init__" = some (some (.ref fI)) ∧ PySem.W.typeIn K (.ref fI) = some (.type "function") ∧
    FnOk P w K mg base (L2.CX P w) k fI fd ["self", xi] (spI C f) ∧ Binds K fd ["self", xi] [] ∧ mg x = some (.ref C)
theorem ss_raise {fa : FA} {rp : Pos} (T : ExcOk X.prog X.w X.K X.mg X.base k x f) (hr : Room (k + 1) X.A) (hcalm : X.calm = true) (tk : Takes X Wx) (hg : Gl X x) (ha : SimA X Wx [e] fa)
    (hdb : (x == ("__debug__" : Str)) = false := by decide) (hst : starEach [e] X.env = (false, eval e X.env) :: starEach [] X.env := by rfl) (hpl : (backTo pos (starEach [] X.env)).any (·.1) = false := by rfl) : SimS X Wx (.Raise (some (.Call (.Name x p) [e] [] pos)) none rp) (fRaise x f fa) := by
  obtain ⟨C, fI, xi, fd, B, O, newId, initId, bm, b, T1, iC, tI, F1, hb, hm⟩ := T.ex
  obtain ⟨ta, pa, ha⟩ := ha.out
  refine SimS.mk (ps_raise hcalm tk (pmk_ox b T1 iC tI F1 hr hb hg hm pa hdb hst hpl)) (fun w d σ D s e h => ?_)
  refine ha w d σ _ s e ((toS_post s e h).mono (fun us S1 h1 w1 vs eS st s1 rs => ?_) fun _ _ q => q)
  subst eS
  cases rs with
  | nil => exact h1.elim
  | cons r rs =>
    cases rs with
    | cons _ _ => exact h1.elim
    | nil =>
      rename_i u v
      refine ⟨v, rfl, fun dd nd => ?_⟩
      have st1 := Stp.new s1 (o := .xd [(f, v)]) nd
      have s2 : SR (KMof X) (w1.new dd (.xd [(f, v)])) := s1.new nd
      exact h1 (w1.new dd (.xd [(f, v)])) rfl (st.trans st1) s2 σ ((e.ext st.x s).ext st1.x s1) (.ref C) (some dd) ⟨hm, dd, v, rfl, upd_same, r.ext st1.x s1⟩
end
end DL
set_option maxHeartbeats 4000000
namespace DL
open PySem PySem.Spec L2 PyProof.Rows
section
variable {X : Cx} {pins : List (Addr × Obj)} {σ : L2.St} {H : Hp} {s : Shared}
theorem adopt (I : Inv X pins σ H s) {a C d : Addr} {oe : Obj} {vs : Array Value} (na : H a = none) (h0 : X.s_0.heap.get? a = none) (ha : s.heap.get? a = some oe) (hd : oe.data = .fields vs) (hz : Zc (.ref C) (some d) oe) (nL : a ≠ X.env.locals) (np : ∀ q ∈ X.pn ++ pins, q.1 ≠ a) :
    Inv X pins σ (upd H a (exv a C d)) s := by
  have old : ∀ {b : Addr} {o : Obj}, X.s_0.heap.get? b = some o → b ≠ a := fun {b o} q z => by rw [z, h0] at q; cases q
  have tr : ∀ {b : Addr} {o : HO}, H b = some o → b ≠ a := fun {b o} q z => by rw [z, na] at q; cases q
  refine ⟨I.ok, I.os, I.bare, ⟨I.base.keep, I.base.slot, fun b o q n x => ?_, I.base.there, fun b xs q => ?_, fun b o u q => ?_, fun b ps q => ?_⟩, I.loc, I.cell, ?_, fun x c hc => ?_, fun q hq => ?_, fun b o q => ?_, I.len⟩
  · rw [upd_ne (old q)]; exact I.base.free b o q n x
  · have z := I.base.tups b xs q; rw [upd_ne (tr z)]; exact z
  · have z := I.base.frzs b o u q; rw [upd_ne (tr z)]; exact z
  · obtain ⟨m, z⟩ := I.base.tbls b ps q; exact ⟨m, by rw [upd_ne (tr z)]; exact z⟩
  · rw [upd_ne (Ne.symm nL)]; exact I.free
  · have hca : c ≠ a := fun z => by
      obtain ⟨v, hv⟩ := I.cell x c hc
      rw [z] at hv
      obtain ⟨oc, ho, hdc⟩ := hv
      rw [ha] at ho
      cases ho
      rw [hd] at hdc
      cases hdc
    rw [upd_ne hca]; exact I.freeC x c hc
  · obtain ⟨h1, h2, h3⟩ := I.pin q hq
    exact ⟨h1, by rw [upd_ne (np q hq)]; exact h2, h3⟩
  · by_cases hb : b = a
    · subst hb
      rw [upd_same] at q
      cases q
      exact exv_ok ha hz hd
    · rw [upd_ne hb] at q
      exact (I.hok b o q).stay (fun c u _ z => z) (fun c hc => by rw [upd_ne (tr hc)]; exact hc) (fun c xs hc => by rw [upd_ne (tr hc)]; exact hc)
theorem suite0 (I : Inv X pins σ H s) (a : Addr) : Inv (X.suite a (X.pn ++ pins)) [] σ H s :=
  ⟨I.ok.suite _ _, I.os, I.bare, I.base, I.loc, I.cell, I.free, I.freeC, fun q hq => I.pin q (by rw [List.append_nil] at hq; exact hq), I.hok, I.len⟩
theorem unsuite0 {a : Addr} {pn' : List (Addr × Obj)} (I : Inv (X.suite a (X.pn ++ pins)) pn' σ H s) (ok : X.Ok) : Inv X pins σ H s :=
  ⟨ok, I.os, I.bare, I.base, I.loc, I.cell, I.free, I.freeC, fun q hq => I.pin q (List.mem_append_left _ hq), I.hok, I.len⟩
end
def wTry (K : PySem.W.Frag) (c : Value) (i : Nat) (ts : Addr → TS) (Wout : WX) (D : Ends) : WX := fun cls d σ H =>
  ∃ b, PySem.W.exmOne K cls c = some b ∧ (b = true → ∃ C dd, cls = .ref C ∧ d = some dd ∧ ∀ a, H a = none → ts a { nx := fun σ' H' => D.nx (σ'.set i none) H', rt := D.rt, bk := fun σ' H' => D.bk (σ'.set i none) H', ct := fun σ' H' => D.ct (σ'.set i none) H' } (σ.set i (some (.ref a))) (upd H a (exv a C dd))) ∧
    (b = false → Wout cls d σ H)
section
variable {X : Cx} {x n : Str} {c : Value} {i : Nat} {body suite : List Stmt} {s0 : Stmt} {np pos pos' : Pos} {tb : WX → TS} {ts : Addr → TS} {Wout : WX}
theorem ps_tryX (hs : X.stack = X.env :: X.outer) (hf : X.env.frame = some X.env.locals) (hex : X.ex = []) (hN : X.N.Nodup) (hi : X.N[i]? = some n) (hln : X.env.kindOf n = some .local) (hc : Names X x c) (tk : Takes X Wout)
    (hb : ∀ (W : WX) (pn : List (Addr × Obj)) (xe : Value → Shared → Prop), Takes (X.tr pn xe) W → PassesOwn (model X.prog X.w) X.A X.env xe → PSs (X.tr pn xe) body (tb W))
    (hsu : ∀ (a : Addr) (pn : List (Addr × Obj)), PSs (X.suite a pn) (s0 :: suite) (ts a)) :
    PS X (.Try body [.ExceptHandler (some (.Name x np)) (some n) (s0 :: suite) pos'] [] [] pos) (fun D σ H => tb (wTry X.K c i ts Wout D) D σ H) := by
  refine ⟨fun pins s σ H D I h => ?_⟩
  have ok := I.ok
  have fr1 : X.A.frames = some (X.env :: X.outer) := by rw [ok.frames, hs]
  refine wpAny_Try_except ?_
  refine wpAny_mono ((hb (wTry X.K c i ts Wout D) (X.pn ++ pins) (fun e t1 => wpAny (model X.prog X.w) X.A (noteFrame e X.env) (fun _ t2 => wpAny (model X.prog X.w) X.A (setFlight e none) (fun _ t3 => wpAny (model X.prog X.w) X.A (handleBy e X.env [.ExceptHandler (some (.Name x np)) (some n) (s0 :: suite) pos']) (SP X pins D) X.xe t3) X.xe t2) X.xe t1)
    (fun u s' xx => ?_) PassesOwn.looking).run [] s σ H D (I.toTry _) h) (fun f s1 hsp => ?_) (fun e s1 he => he)
  · obtain ⟨a, G, sI, pins', σ1, H1, cls, d, rfl, J', nb, up, sky, na, os, ag, b, hb1, hyes, hno⟩ := xx
    have J : Inv X pins σ1 H1 sI := J'.ofTry ok
    have sky1 : Sky G (X.env :: X.outer) a (Zc cls d) X.env.locals s'.heap := by rw [← hs]; exact sky
    show wpAny (model X.prog X.w) X.A (noteFrame (.ref a) X.env) _ _ _
    refine Sky.land Zc.steady fr1 hf sky1 fun h3 fl3 up3 => ?_
    have J3 : Inv X pins σ1 H1 { s' with heap := h3 } := J.landed nb fl3.1 (up.trans up3) os ag
    obtain ⟨oe, vs, he, hz, hd⟩ := fl3.there
    have nfr : a ∉ frs (X.env :: X.outer) := fun hm => by
      obtain ⟨_, o', e', hnf⟩ := fl3.2.2.1.mem hm
      rw [he] at e'; cases e'
      exact hnf _ hd
    have nL : a ≠ X.env.locals := fun z => nfr (List.mem_filterMap.mpr ⟨X.env, List.mem_cons_self, by rw [hf, z]⟩)
    have noI : sI.heap.get? a = none := by
      cases q : sI.heap.get? a with
      | none => rfl
      | some o =>
        have z := nb a o q (by rw [hs]; exact nfr)
        rw [fl3.2.1] at z
        cases z
    have no0 : X.s_0.heap.get? a = none := by
      cases q : X.s_0.heap.get? a with
      | none => rfl
      | some o =>
        obtain ⟨o', z⟩ := J.base.there a o q (by rw [hex]; simp)
        rw [noI] at z
        cases z
    have npin : ∀ q ∈ X.pn ++ pins, q.1 ≠ a := fun q hq z => by
      have y := (J.pin q hq).1
      rw [z, noI] at y
      cases y
    have S3 := suite0 J3 a
    refine wpAny_handleBy_cons (codeAny_handlers_test ?_) (by intro q; cases q)
    have LT : PySem.W.Looks (model X.prog X.w) h3 (typeOf (.ref a)) cls := fun A Q E t k q => wpAny_typeOf_ref (k _ _ he) (by rw [hz.1]; exact q)
    have LM := PySem.W.exm_one (M := model X.prog X.w) (J3.kIn) LT hb1
    have test : ∀ {Q : Value → Shared → Prop} {E : Value → Shared → Prop}, Q c { s' with heap := h3 } → wpAny (model X.prog X.w) (X.A.mark (some (.ref a))) (eval (.Name x np) X.env) Q E { s' with heap := h3 } := fun {Q E} q => by
      obtain ⟨hg, hdbg, hm | ⟨hm, hv, hnn⟩⟩ := hc
      · exact ld_glob (X := X.suite a (X.pn ++ pins)) S3 hg hm q hdbg
      · exact ld_blt (X := X.suite a (X.pn ++ pins)) S3 hg hm hv q hnn hdbg
    refine test (LM.here ?_)
    cases b with
    | true =>
      obtain ⟨C, dd, rfl, rfl, ht⟩ := hyes rfl
      refine codeAny_handlers_suite_as (HandSPX.lands_againZ fl3 fun h4 fl4 up4 => ?_)
      have J4 : Inv X pins σ1 H1 { s' with heap := h4 } := J.landed nb fl4.1 ((up.trans up3).trans up4) os ag
      obtain ⟨oe4, vs4, he4, hz4, hd4⟩ := fl4.there
      have S4 := suite0 (adopt J4 na no0 he4 hd4 hz4 nL npin) a
      refine store_ok (X := X.suite a (X.pn ++ pins)) (v := .ref a) S4 hN hi (.inl hln) rfl (fun s5 S5 => ?_) (.inr hln)
      refine wpAny_mono ((hsu a (X.pn ++ pins)).run [] s5 _ _ _ S5 (ht a na)) (fun f s6 hsp => ?_) (fun _ _ z => False.elim z)
      have bye : ∀ {σ6 : L2.St} {H6 : Hp} {Q : Shared → Prop}, Inv (X.suite a (X.pn ++ pins)) [] σ6 H6 s6 → (∀ s7, Inv X pins (σ6.set i none) H6 s7 → Q s7) → wpAny (model X.prog X.w) X.A (do bindName X.env n .none; unbindBehindTheSuite X.env n pos') (fun _ s7 => Q s7) X.xe s6 := fun {σ6 H6 Q} S6 hq => gone_ok (unsuite0 S6 ok) hN hi hln hq
      cases f with
      | next => obtain ⟨σ6, H6, S6, q6⟩ := hsp; exact bye S6 fun s7 J7 => ⟨_, _, J7, q6⟩
      | brk => obtain ⟨σ6, H6, S6, q6⟩ := hsp; exact bye S6 fun s7 J7 => ⟨_, _, J7, q6⟩
      | cont => obtain ⟨σ6, H6, S6, q6⟩ := hsp; exact bye S6 fun s7 J7 => ⟨_, _, J7, q6⟩
      | ret u => obtain ⟨v6, σ6, H6, S6, r6, q6⟩ := hsp; exact bye S6 fun s7 J7 => ⟨_, _, _, J7, r6, q6⟩
    | false =>
      show wpAny _ X.A (handleBy (.ref a) X.env []) _ _ _
      refine wpAny_handleBy_nil ?_
      obtain ⟨k1, k2, k3, oe5, vs5, T5, oT5, ts5, he5, hz5, hd5, h15, hr5⟩ := id fl3
      unfold PySem.passOn
      refine wpAny_bind (wpAny_field he5 hd5 h15 ?_)
      rw [if_neg (show ¬ ((Value.ref T5 == Value.none) = true) from by simp)]
      have last : wpAny (model X.prog X.w) X.A (setFlight (.ref a) X.env.frame) (fun _ t4 => wpAny (model X.prog X.w) X.A (throw (.ref a) : Sem Flow) (SP X pins D) X.xe t4) X.xe { s' with heap := h3 } := by
        rw [hf]
        refine HandSPX.setFlight_upZ fl3 fun h4 hh4 up4 => wpAny_throw (tk _ _ ⟨a, G, sI, pins, σ1, H1, cls, d, rfl, J, nb, (up.trans up3).trans up4, .inr (.inr (by rw [hs]; exact hh4)), na, os, ag, hno rfl⟩)
      first
        | exact wpAny_bind (wpAny_pure (wpAny_bind last))
        | exact wpAny_bind last
  · cases f with
    | next => obtain ⟨σ', H', J', q⟩ := hsp; exact wpAny_execs_nil ⟨σ', H', J'.ofTry ok, q⟩
    | brk => obtain ⟨σ', H', J', q⟩ := hsp; exact ⟨σ', H', J'.ofTry ok, q⟩
    | cont => obtain ⟨σ', H', J', q⟩ := hsp; exact ⟨σ', H', J'.ofTry ok, q⟩
    | ret u => obtain ⟨v, σ', H', J', r, q⟩ := hsp; exact ⟨v, σ', H', J'.ofTry ok, r, q⟩
end
def fTry (m : Str → Option Bool) (i : Nat) (fb fs : FS) : FS := fun d S => match fb d S with
  | .ok (.ex y d1) S1 => match m y.cls with
    | some true => match fs (d1.set i (some (.exc y.cls y.fld y.arg))) S1 with
      | .ok (.nx d2) S2 => .ok (.nx (d2.set i none)) S2
      | .ok (.rt u) S2 => .ok (.rt u) S2
      | .ok (.bk d2) S2 => .ok (.bk (d2.set i none)) S2
      | .ok (.ct d2) S2 => .ok (.ct (d2.set i none)) S2
      | _ => .bad
    | some false => .ok (.ex y d1) S1
    | none => .bad
  | r => r
section
variable {X : Cx} {Wx : WX} {x n : Str} {c : Value} {i : Nat} {body suite : List Stmt} {s0 : Stmt} {np pos pos' : Pos} {fb fs : FS} {m : Str → Option Bool}
theorem ss_try (hs : X.stack = X.env :: X.outer) (hf : X.env.frame = some X.env.locals) (hex : X.ex = []) (hN : X.N.Nodup) (hi : X.N[i]? = some n) (hln : X.env.kindOf n = some .local) (hc : Names X x c) (tk : Takes X Wx)
    (hm : ∀ z b, m z = some b → ∀ cls, X.mg z = some cls → PySem.W.exmOne X.K cls c = some b ∧ ∃ C, cls = .ref C)
    (hb : ∀ (W : WX) (pn : List (Addr × Obj)) (xe : Value → Shared → Prop), Takes (X.tr pn xe) W → PassesOwn (model X.prog X.w) X.A X.env xe → SimB (X.tr pn xe) W body fb)
    (hsu : ∀ (a : Addr) (pn : List (Addr × Obj)), SimB (X.suite a pn) W0 (s0 :: suite) fs) :
    SimS X Wx (.Try body [.ExceptHandler (some (.Name x np)) (some n) (s0 :: suite) pos'] [] [] pos) (fTry m i fb fs) := by
  refine SimS.mk (ps_tryX (tb := fun W => tS X W fb) (ts := fun _ => tS X W0 fs) hs hf hex hN hi hln hc tk (fun W pn xe h1 h2 => hb W pn xe h1 h2) (fun a pn => hsu a pn)) (fun w d σ D s e h => ?_)
  refine ⟨w, d, rfl, s, e, ?_⟩
  unfold fTry at h
  cases hfb : fb d w.S with
  | bad => rw [hfb] at h; exact h.elim
  | exc y S => rw [hfb] at h; exact h.elim
  | ok fl S1 =>
    rw [hfb] at h
    cases fl with
    | nx d1 => exact h
    | rt u => exact h
    | bk d1 => exact h
    | ct d1 => exact h
    | ex y d1 =>
      intro w1 eS st s1 σ1 e1 cls dd xr
      obtain ⟨hcls, dd', v, rfl, hx, rv⟩ := id xr
      have h : Pst (match m y.cls with
        | some true => match fs (d1.set i (some (.exc y.cls y.fld y.arg))) S1 with
          | .ok (.nx d2) S2 => .ok (.nx (d2.set i none)) S2
          | .ok (.rt u) S2 => .ok (.rt u) S2
          | .ok (.bk d2) S2 => .ok (.bk (d2.set i none)) S2
          | .ok (.ct d2) S2 => .ok (.ct (d2.set i none)) S2
          | _ => .bad
        | some false => .ok (.ex y d1) S1
        | none => .bad) (OkS X Wx w D) (fun _ _ => False) := h
      cases hmy : m y.cls with
      | none => rw [hmy] at h; exact h.elim
      | some b =>
        rw [hmy] at h
        obtain ⟨hk, C, rfl⟩ := hm _ _ hmy _ hcls
        refine ⟨b, hk, fun hbt => ?_, fun hbf => ?_⟩
        · subst hbt
          refine ⟨C, dd', rfl, rfl, fun a na => ?_⟩
          subst eS
          have st1 := Stp.new s1 (o := exv a C dd') na
          have s2 : SR (KMof X) (w1.new a (exv a C dd')) := s1.new na
          have hne : dd' ≠ a := fun z => by rw [z, na] at hx; cases hx
          have rx : VR (KMof X) (w1.new a (exv a C dd')) (.exc y.cls y.fld y.arg) (.ref a) := .exc (d := dd') (C := C) (v := v) upd_same (by show upd w1.H a _ dd' = _; rw [upd_ne hne]; exact hx) hcls (rv.ext st1.x s1)
          refine ⟨w1.new a (exv a C dd'), d1.set i (some (.exc y.cls y.fld y.arg)), rfl, s2, (e1.ext st1.x s1).set i rx, ?_⟩
          show Pst (fs (d1.set i (some (.exc y.cls y.fld y.arg))) w1.S) _ _
          cases hfs : fs (d1.set i (some (.exc y.cls y.fld y.arg))) w1.S with
          | bad => rw [hfs] at h; exact h.elim
          | exc z S => rw [hfs] at h; exact h.elim
          | ok fl S2 =>
            rw [hfs] at h
            intro w3 eS3 st3 s3
            have st4 := (st.trans st1).trans st3
            cases fl with
            | nx d2 => exact fun σ2 e2 => h w3 eS3 st4 s3 (σ2.set i none) (e2.forget i none)
            | rt u => exact fun v2 r2 => h w3 eS3 st4 s3 v2 r2
            | bk d2 => exact fun σ2 e2 => h w3 eS3 st4 s3 (σ2.set i none) (e2.forget i none)
            | ct d2 => exact fun σ2 e2 => h w3 eS3 st4 s3 (σ2.set i none) (e2.forget i none)
            | ex z d2 => exact h.elim
        · subst hbf
          exact h w1 eS st s1 σ1 e1 (.ref C) (some dd') xr
end
end DL
set_option maxHeartbeats 4000000
namespace DL
open PySem PySem.Spec PyProof.Rows L2
def txtOf (e : Int × Value) : Str := match e.2 with
  | .str k _ => k
  | _ => Str.empty
def TxtE (P : Program) (w : World) (e : Int × Value) : Prop := ∃ k tk, e.2 = Value.str k tk ∧ e.1 = (strKind P w).hash k
def SetS (P : Program) (w : World) (h : Heap) (a : Addr) (S : Str → Bool) (n : Nat) : Prop :=
  ∃ o es ep t, h.get? a = some o ∧ o.ExactSet ∧ o.data = .set es ep t ∧ (∀ e ∈ es.toList, TxtE P w e) ∧ (es.toList.map txtOf).Nodup ∧ (∀ k, S k = true ↔ k ∈ es.toList.map txtOf) ∧
    es.size < scanBound ∧ t.fits es.size = true ∧ es.size = n ∧ Ris t.place.toList ∧ (w.params.followText "set-order" = true ∨ t.led = true)
section
variable {P : Program} {w : World} {h h' : Heap} {a : Addr} {S : Str → Bool} {n : Nat}
theorem SetS.at (R : SetS P w h a S n) (k : ∀ o, h.get? a = some o → h'.get? a = some o) : SetS P w h' a S n := by
  obtain ⟨o, es, ep, t, ho, r⟩ := R
  exact ⟨o, es, ep, t, k o ho, r⟩
theorem txt_elems {l : List (Int × Value)} (g : ∀ e ∈ l, TxtE P w e) : ElemsOf (strKind P w) l := fun e he => by
  obtain ⟨k, tk, h1, h2⟩ := g e he
  exact ⟨⟨k, by rw [h1]; exact strKind_is P w k tk, h2⟩, by rw [h1] <;> rfl⟩
theorem txt_is {e : Int × Value} (g : TxtE P w e) (k : Str) : (strKind P w).is k e.2 = true ↔ txtOf e = k := by
  obtain ⟨k0, tk, h1, _⟩ := g
  unfold txtOf
  rw [h1]
  show ((k0 == k) = true) ↔ k0 = k
  exact beq_iff_eq
theorem txt_mem {l : List (Int × Value)} (g : ∀ e ∈ l, TxtE P w e) (k : Str) : k ∈ l.map txtOf ↔ ∃ e ∈ l, (strKind P w).is k e.2 = true := by
  rw [List.mem_map]
  exact ⟨fun ⟨e, he, q⟩ => ⟨e, he, (txt_is (g e he) k).2 q⟩, fun ⟨e, he, q⟩ => ⟨e, he, (txt_is (g e he) k).1 q⟩⟩
end
section
variable {P : Program} {w : World} {A : Around} {E : Value → Shared → Prop} {s : Shared} {a : Addr} {S : Str → Bool} {n : Nat}
theorem ss_tail {gw : Bool → Sem Unit} (hg : ∀ (b : Bool) (s1 : Shared) (Q : Unit → Shared → Prop), Q () s1 → wpAny (model P w) A (gw b) Q E s1)
    {o : Obj} {es es1 : Array (Int × Value)} {ep : Nat} {t t2 : SetTable} {S' : Str → Bool} (ho : s.heap.get? a = some o) (hex : o.ExactSet) (hd : o.data = .set es ep t)
    (g1 : ∀ e ∈ es1.toList, TxtE P w e) (nd1 : (es1.toList.map txtOf).Nodup) (m1 : ∀ k, S' k = true ↔ k ∈ es1.toList.map txtOf)
    (hb1 : es1.size < scanBound) (hf2 : t2.fits es1.size = true) (hr : Ris t2.place.toList) (hl : w.params.followText "set-order" = true ∨ t2.led = true) {dummy : Bool} {Rr : Option Bool → Shared → Prop}
    (hR : ∀ h', Heap.SameBut a s.heap h' → SetS P w h' a S' es1.size → Rr (some true) { s with heap := h' }) :
    wpAny (model P w) A (do
        storeSet a es1 t2
        if (!dummy && t2.tooFull) = true then do
            gw (relayAll t2 es1 (SetTable.grown es1.size)).2.2
            storeSet a (relayAll t2 es1 (SetTable.grown es1.size)).1 (relayAll t2 es1 (SetTable.grown es1.size)).2.1
            pure (some true)
          else pure (some true)) Rr E s := by
  refine wpAny_bind (wpAny_storeSet_of ho hd ?_ (fits_of_scanBound hb1))
  have ho1 := store_at (es' := es1) (t' := t2) ho hd
  have sb := Heap.SameBut.update s.heap a (Obj.putSet es1 t2)
  split
  · have p1 := relayAll_perm t2 es1 (SetTable.grown es1.size)
    have p2 := relayAll_fits t2 es1 (SetTable.grown es1.size)
    have p3 := relayAll_ris t2 es1 (SetTable.grown es1.size)
    have p4 := relayAll_led t2 es1 (SetTable.grown es1.size)
    generalize relayAll t2 es1 (SetTable.grown es1.size) = Z at p1 p2 p3 p4 ⊢
    obtain ⟨es2, t3, gave⟩ := Z
    dsimp only at p1 p2 p3 p4 ⊢
    have sz : es2.size = es1.size := by rw [← Array.length_toList, p1.length_eq, Array.length_toList]
    have hb2 : es2.size < scanBound := by rw [sz]; exact hb1
    refine wpAny_bind (hg _ _ _ (wpAny_bind (wpAny_storeSet_of ho1 rfl ?_ (fits_of_scanBound hb2))))
    have ho2 := store_at (es' := es2) (t' := t3) ho1 rfl
    refine wpAny_pure (hR _ (sb.trans (Heap.SameBut.update _ a _)) ⟨_, es2, _, t3, ho2, hex, rfl, fun e he => g1 e (p1.mem_iff.mp he), (p1.map txtOf).nodup_iff.mpr nd1, fun k => (m1 k).trans (p1.map txtOf).mem_iff.symm, hb2, p2, sz, p3, hl.imp id fun z => by rw [p4]; exact z⟩)
  · exact wpAny_pure (hR _ sb ⟨_, es1, _, t2, ho1, hex, rfl, g1, nd1, m1, hb1, hf2, rfl, hr, hl⟩)
theorem ss_add {k : Str} {tk : Tok} {Q : Bool → Shared → Prop} (R : SetS P w s.heap a S n) (room : n + 1 < scanBound)
    (hQ : ∀ h', Heap.SameBut a s.heap h' → SetS P w h' a (fun j => S j || decide (j = k)) (if S k = true then n else n + 1) → Q (!S k) { s with heap := h' }) :
    wpAny (model P w) A (setAddHashed a (.str k tk) ((strKind P w).hash k)) Q E s := by
  obtain ⟨o, es, ep, t, ho, hex, hd, g, nd, hm, hb, hf, hn, hr, hl⟩ := R
  have c1 : (strKind P w).is k (.str k tk) = true := strKind_is P w k tk
  have c2 : (Value.str k tk).scannable = true := rfl
  have c3 : ElemsOf (strKind P w) es.toList := txt_elems g
  unfold setAddHashed setAddHashedIn
  refine wpAny_holding (wpAny_bind (wpAny_setState_of ho hd hf ?_))
  dsimp only
  rw [byScan_of c2 hb c3]
  simp only [↓reduceIte]
  unfold setAddByScan
  refine wpAny_bind (wpAny_bind (wpAny_rule (wpAny_bind (wpAny_setScan_of c1 ho hd hf c3 ?_))))
  cases hfi : List.findIdx? (fun e => (strKind P w).is k e.2) es.toList with
  | some j =>
    dsimp only
    obtain ⟨hj, pj, _⟩ := List.findIdx?_eq_some_iff_getElem.mp hfi
    have hSk : S k = true := (hm k).2 ((txt_mem (P := P) (w := w) g k).2 ⟨es.toList[j], List.getElem_mem hj, pj⟩)
    refine wpAny_pure (wpAny_pure ?_)
    have q := hQ s.heap (Heap.SameBut.refl a s.heap) ⟨o, es, ep, t, ho, hex, hd, g, nd, fun i => by
      rw [Bool.or_eq_true, decide_eq_true_eq, ← hm i]
      exact ⟨fun z => z.elim id (fun e => e ▸ hSk), .inl⟩, hb, hf, by rw [if_pos hSk]; exact hn, hr, hl⟩
    rw [hSk] at q
    exact q
  | none =>
    dsimp only
    have hnk : k ∉ es.toList.map txtOf := fun z => by
      obtain ⟨e, he, q⟩ := (txt_mem (P := P) (w := w) g k).1 z
      have y := List.findIdx?_eq_none_iff.mp hfi e he
      rw [q] at y
      cases y
    have hSk : S k = false := by
      cases q : S k with
      | false => rfl
      | true => exact absurd ((hm k).1 q) hnk
    have gave : ∀ (b : Bool) {s1 : Shared} {Q1 : Unit → Shared → Prop}, Q1 () s1 → wpAny (model P w) A (match b with | true => rule "set.scan.the-table-gave-way" | false => pure ()) Q1 E s1 := fun b s1 Q1 q => by cases b <;> first | exact wpAny_pure q | exact wpAny_rule q
    have p1 := layNew_perm t es ((strKind P w).hash k) (.str k tk)
    have p2 := layNew_fits t es ((strKind P w).hash k) (.str k tk)
    have p3 := layNew_ris t es ((strKind P w).hash k) (.str k tk) hr
    have p4 := layNew_led t es ((strKind P w).hash k) (.str k tk)
    generalize layNew t es ((strKind P w).hash k) (.str k tk) = Z at p1 p2 p3 p4 ⊢
    obtain ⟨es1, t1, dummy, gv⟩ := Z
    dsimp only at p1 p2 p3 p4 ⊢
    rw [Array.toList_push] at p1
    have pc : es1.toList.Perm (((strKind P w).hash k, Value.str k tk) :: es.toList) := p1.trans (List.perm_append_singleton _ _)
    have pk : (es1.toList.map txtOf).Perm (k :: es.toList.map txtOf) := pc.map txtOf
    have g1 : ∀ e ∈ es1.toList, TxtE P w e := fun e he => by
      rcases List.mem_cons.mp (pc.mem_iff.mp he) with z | z
      · rw [z]; exact ⟨k, tk, rfl, rfl⟩
      · exact g e z
    have nd1 : (es1.toList.map txtOf).Nodup := pk.nodup_iff.mpr (List.nodup_cons.mpr ⟨hnk, nd⟩)
    have m1 : ∀ i, (S i || decide (i = k)) = true ↔ i ∈ es1.toList.map txtOf := fun i => by
      rw [Bool.or_eq_true, decide_eq_true_eq, hm i, pk.mem_iff, List.mem_cons]
      exact Or.comm
    have sz : es1.size = n + 1 := by rw [← Array.length_toList, pc.length_eq, List.length_cons, Array.length_toList, hn]
    have hb1 : es1.size < scanBound := by rw [sz]; exact room
    have ld : w.params.followText "set-order" = true ∨ t1.led = true := hl.imp id fun z => by rw [p4]; exact z
    have fin : ∀ h', Heap.SameBut a s.heap h' → SetS P w h' a (fun j => S j || decide (j = k)) es1.size → Q true { s with heap := h' } := fun h' sb r => by
      have q := hQ h' sb
      rw [hSk] at q
      rw [sz] at r
      exact q r
    refine wpAny_bind (gave _ ?_)
    split
    · refine wpAny_bind ?_
      rw [hashByValue_scannable 8 c2]
      refine wpAny_pure (ss_tail ?_ ho hex hd g1 nd1 m1 hb1 ?_ ?_ ?_ ?_)
      · intro b s1 Q1 q; cases b <;> first | exact wpAny_pure q | exact wpAny_rule q
      · first | (split <;> first | exact p2 | exact SetTable.fits_plain_off p2) | exact p2
      · first | (split <;> exact p3) | exact p3
      · first | (split <;> exact ld) | exact ld
      · intro h' sb r; dsimp only; exact wpAny_pure (fin h' sb r)
    · refine wpAny_bind (wpAny_pure ?_)
      simp only [↓reduceIte]
      refine ss_tail ?_ ho hex hd g1 nd1 m1 hb1 p2 p3 ld ?_
      · intro b s1 Q1 q; cases b <;> first | exact wpAny_pure q | exact wpAny_rule q
      · intro h' sb r; dsimp only; exact wpAny_pure (fin h' sb r)
end
end DL
set_option maxHeartbeats 4000000
namespace DL
open PySem PySem.Spec PyProof.Rows L2
abbrev newS (w : World) : Obj := { cls := .type "set", dict := none, data := .set #[] 0 (.fresh 0 0 (!w.params.followText "set-order")) }
theorem ss_new_at {P : Program} {w : World} {h : Heap} {a : Addr} {ks : List Str} (ho : h.get? a = some (newS w)) : SetS P w h a (fun j => decide (j ∈ ks.take 0)) 0 :=
  ⟨_, #[], 0, _, ho, ⟨rfl, rfl, rfl⟩, rfl, (fun e he => by simp at he), (by simp), (fun k => by simp), (by decide), (by rfl), rfl, List.Pairwise.nil, by
    cases hq : w.params.followText "set-order"
    · exact .inr rfl
    · exact .inl rfl⟩
theorem SetS.congr {P : Program} {w : World} {h : Heap} {a : Addr} {S S' : Str → Bool} {n : Nat} (R : SetS P w h a S n) (e : ∀ k, S' k = S k) : SetS P w h a S' n := (funext e : S' = S) ▸ R
section
variable {P : Program} {w : World} {A : Around} {E : Value → Shared → Prop} {s : Shared}
theorem ss_loop {I : Addr} {fp wr : List Addr} {G : Array GenState → Array GenState → Prop} {n : Nat} {Pv : Nat → Value → Prop} {St : Nat → Shared → Prop} {R : Result → Shared → Prop}
    (W : WalksS P w A.in1 I fp wr G n Pv St) (T : Addr) (hT : T ∉ fp) (ks : List Str) (hn : n = ks.length) (hb : ks.length + 1 < scanBound) (hval : ∀ i v, Pv i v → ∃ k t, ks[i]? = some k ∧ v = .str k t) :
    ∀ (m i : Nat) (s : Shared), n - i = m → i ≤ n → St i s → (∃ c, c ≤ i ∧ SetS P w s.heap T (fun j => decide (j ∈ ks.take i)) c) →
      (∀ s' c, Moved (T :: wr) G s s' → c ≤ n → SetS P w s'.heap T (fun j => decide (j ∈ ks)) c → R (.ok (.ret .none)) s') →
      codeAny (model P w) A (.builtin "set.update.loop" ⟨[.ref T, .ref I], []⟩) R s := by
  have n1 : T ∉ wr := fun z => hT (W.sub _ z)
  have n2 : ∀ b ∈ wr, b ∈ T :: wr := fun b z => List.mem_cons_of_mem _ z
  intro m
  induction m with
  | zero =>
    intro i s hk hi hst ⟨c, hc, hS⟩ hR
    obtain rfl : i = n := by omega
    refine codeAny_builtin F.entry_set_update_loop ?_
    rw [Around.under_plainId F.plain_set_update_loop _]
    refine (show wpAny _ A.in1 (pyNext (.ref I) >>= _) _ _ s from wpAny_bind (W.done s _ _ hst fun s' hm => ?_))
    rw [List.take_of_length_le (by omega : ks.length ≤ i)] at hS
    exact (show wpAny _ A.in1 (ret Value.none) _ _ s' from wpAny_pure (hR s' c (hm.mono n2) hc (hS.at fun o e => hm.heap T o n1 e)))
  | succ m ih =>
    intro i s hk hi hst ⟨c, hc, hS⟩ hR
    have hlt : i < n := by omega
    refine codeAny_builtin F.entry_set_update_loop ?_
    rw [Around.under_plainId F.plain_set_update_loop _]
    refine (show wpAny _ A.in1 (pyNext (.ref I) >>= _) _ _ s from wpAny_bind (W.item i s _ _ hlt hst fun v s' hP hst' hm => ?_))
    obtain ⟨z, t, hz, rfl⟩ := hval i v hP
    have hS1 : SetS P w s'.heap T (fun j => decide (j ∈ ks.take i)) c := hS.at fun o e => hm.heap T o n1 e
    refine (show wpAny _ A.in1 (holding [Value.str z t] (setAdd T (.str z t)) >>= _) _ _ s' from wpAny_bind (wpAny_holding ?_))
    unfold setAdd
    refine wpAny_holding (wpAny_bind ((strKind P w).pyHash (k := z) (strKind_is _ _ _ _) (ss_add (s := { s' with toks := s'.toks + 1 }) hS1 (by omega) fun h' sb hS2 => ?_)))
    have hS3 : SetS P w h' T (fun j => decide (j ∈ ks.take (i + 1))) (if decide (z ∈ ks.take i) = true then c else c + 1) := hS2.congr fun j => by
      rw [List.take_add_one, hz]
      simp [List.mem_append]
    refine wpAny_pure ⟨plainId_quiet F.plain_set_update_loop _, ih (i + 1) _ (by omega) hlt (W.frame _ s' _ _ hst' (Nat.le_succ _) fun b hb o e => ?_) ⟨_, (by split <;> omega), hS3⟩ fun s2 c2 hm2 hc2 hS4 => ?_⟩
    · rw [sb.2 b (fun q : b = T => hT (by rw [← q]; exact hb))]; exact e
    · refine hR s2 c2 (Moved.trans W.gtrans ((hm.mono n2).then_heap (Nat.le_succ _) fun b o hb e => ?_) hm2) hc2 hS4
      rw [sb.2 b (fun q : b = T => hb (by rw [q]; exact List.mem_cons_self))]; exact e
theorem strs_get : ∀ {l : List Value} {xs : List Str}, StrsAre l xs → ∀ (i : Nat) (v : Value), l[i]? = some v → ∃ k t, xs[i]? = some k ∧ v = .str k t
  | _, _, .nil, i, v, h => by simp at h
  | _, _, .cons n t hr, 0, v, h => by simp at h; exact ⟨n, t, rfl, h.symm⟩
  | _, _, .cons n t hr, i + 1, v, h => by
    simp only [List.getElem?_cons_succ] at h ⊢
    exact strs_get hr i v h
theorem set_of_list {l : Addr} {items : Array Value} (ks : List Str) {Q : Value → Shared → Prop} (hh : A.handled = none) (hl : s.heap.IsList l items) (hit : StrsAre items.toList ks) (hb : ks.length + 1 < scanBound)
    (h : ∀ (h' : Heap) (tk c : Nat), SetS P w h' s.heap.objs.size (fun j => decide (j ∈ ks)) c → c ≤ ks.length → (∀ b o, s.heap.get? b = some o → h'.get? b = some o) → Q (.ref s.heap.objs.size) { s with heap := h', toks := tk }) :
    wpAny (model P w) A (call (.type "set") [.ref l]) Q E s := by
  have sz : items.size = ks.length := by rw [← StrsAre.len_eq hit, Array.length_toList]
  obtain ⟨c0, tl0, hmro⟩ := F.called_set.mro
  have f1 := F.called_set.made
  have f2 := F.called_set.sub
  have f3 := F.called_set.notType
  have f4 := F.called_set.canCreate
  have f5 := F.typeCall_set_1 (.ref l)
  refine wpAny_call (codeAny_of_tree (show wpAny _ _ (callAny (.type "set") _) _ _ _ from wpAny_pure ⟨Code.quiet_builtin _ (by decide +kernel), codeAny_builtin F.entry_type_call ?_⟩))
  rw [Around.under_plain (weight_type_call_type "set" [.ref l] []) rfl]
  repeat (any_goals (first | assumption | wp_step))
  refine codeAny_mono (code_set_led1 (.ref l) (E := E) (Q₁ := fun ob s1 => ob = .ref s.heap.objs.size ∧ s1 = { s with heap := s.heap.push (newS w) }) ⟨rfl, rfl⟩) fun r s1 hr => ?_
  cases r with
  | error e => exact hr
  | ok fl =>
    cases fl with
    | ret ob =>
      obtain ⟨rfl, rfl⟩ := hr
      have hS : (s.heap.push (newS w)).get? s.heap.objs.size = some (newS w) := Heap.get?_push_size _ rfl
      have hT : Shared.TypeIs { s with heap := s.heap.push (newS w) } (.ref s.heap.objs.size) "set" := ⟨_, hS, rfl⟩
      have f6 := F.called_set.init.lookup
      have f7 := F.called_set.init.bind (.ref s.heap.objs.size)
      repeat (any_goals (first | assumption | wp_step))
      refine codeAny_mono (codeAny_call_builtin (R := wants (fun r s2 => r = .none ∧ ∃ h' tk c, s2 = { s with heap := h', toks := tk } ∧ SetS P w h' s.heap.objs.size (fun j => decide (j ∈ ks)) c ∧ c ≤ ks.length ∧ (∀ b o, s.heap.get? b = some o → h'.get? b = some o)) E) F.called_set.init.plain F.entry_set_init (check_set_init_1 hT ?_)) fun r2 s2 hr2 => ?_
      · obtain ⟨ol, hol, hcl, nl, hdl⟩ := hl
        obtain ⟨ocls, odict, odata, oslots⟩ := ol
        simp only at hcl hdl
        subst hcl; subst hdl
        have hol1 : (s.heap.push (newS w)).get? l = some { cls := .type "list", dict := odict, data := .seq items nl, slots := oslots } := Heap.get?_push_of_some _ hol
        have f8 := F.sub_list_set
        have f9 := F.sub_list_frozenset
        have f10 : (Value.type "list" == Value.type "dict") = false := by decide
        have hl1 : (s.heap.push (newS w)).IsList l items := ⟨_, hol1, rfl, nl, rfl⟩
        unfold Builtin.«set.__init__» noKeywords Builtin.Frozenset.updateFrom
        generalize hPI : pyIter = PI
        wp_walk
        subst hPI
        refine wpAny_pyIter_list hl1 (wpAny_bind (wpAny_runValue ?_))
        have hlS : l < s.heap.objs.size := Heap.lt_size hol
        have zz : (s.heap.push (newS w)).objs.size = s.heap.objs.size + 1 := Heap.size_push ..
        have q1 : l ≠ (s.heap.push (newS w)).objs.size := by rw [zz]; exact Nat.ne_of_lt (Nat.lt_succ_of_lt hlS)
        have q2 : s.heap.objs.size ∉ [(s.heap.push (newS w)).objs.size, l] := by
          rw [zz]; simp only [List.mem_cons, List.mem_singleton, List.not_mem_nil, or_false, not_or]
          exact ⟨Nat.ne_of_lt (Nat.lt_succ_self _), Nat.ne_of_gt hlS⟩
        refine ss_loop ((Walks.list (by simp [hh]) _ l q1 items).toS) s.heap.objs.size q2 ks sz hb (fun i v hv => strs_get hit i v (by rw [Array.getElem?_toList]; exact hv)) (items.size - 0) 0 _ (by omega) (Nat.zero_le _) ⟨⟨_, Heap.get?_push_size _ rfl, rfl, rfl⟩, (hl1.push _)⟩ ⟨0, Nat.le_refl 0, ss_new_at (Heap.get?_push_of_some _ hS)⟩ ?_
        intro s' c' hm hc' hS'
        obtain ⟨h', g2, d', tk', os'⟩ := s'
        obtain rfl : g2 = s.gens := hm.gens
        obtain rfl : d' = s.drawn := hm.drawn
        obtain rfl : os' = s.os := hm.os
        refine (show wpAny _ _ _ _ _ _ from wpAny_pure (show wpAny _ _ (ret Value.none) _ _ _ from ?_))
        rw [sz] at hc'
        refine wpAny_pure ⟨rfl, h', tk', c', rfl, hS', hc', fun b o e => ?_⟩
        have hb0 : b < s.heap.objs.size := Heap.lt_size e
        exact hm.heap b o (by rw [zz]; simp only [List.mem_cons, List.mem_singleton, List.not_mem_nil, or_false, not_or]; exact ⟨Nat.ne_of_lt hb0, Nat.ne_of_lt (Nat.lt_succ_of_lt hb0)⟩) (Heap.get?_push_of_some _ (Heap.get?_push_of_some _ e))
      · cases r2 with
        | error e => exact hr2
        | ok fl2 =>
          cases fl2 with
          | ret r =>
            obtain ⟨rfl, h', tk, c', rfl, hS', hc', hk'⟩ := hr2
            repeat (any_goals (first | assumption | wp_step))
            exact h _ _ _ hS' hc' hk'
          | _ => exact hr2.elim
    | _ => exact hr.elim
end
end DL
set_option maxHeartbeats 4000000
namespace DL
open PySem PySem.Spec PyProof.Rows L2
def SsO (P : Program) (w : World) (a : Addr) (S : Str → Bool) (n : Nat) : HO := .ext fun h => SetS P w h a S n
section
variable {X : Cx}
theorem sso_new {P : Program} {w : World} {H : Hp} {h : Heap} {a : Addr} {S : Str → Bool} {n : Nat} (R : SetS P w h a S n) : ObjOk P w H h a (SsO P w a S n) := by
  have ⟨o, _, _, _, ho, _⟩ := R
  exact ⟨R, ⟨o, ho⟩, fun h1 h2 q k => SetS.at q k⟩
theorem sso_get {pins : List (Addr × Obj)} {σ : L2.St} {H : Hp} {s : Shared} {a : Addr} {S : Str → Bool} {n : Nat} (I : Inv X pins σ H s) (ha : H a = some (SsO X.prog X.w a S n)) : SetS X.prog X.w s.heap a S n := (I.hok a _ ha).1
def rSetTx (X : Cx) : List V → Hp → VK → Prop := fun xs H Q => ∃ (l : Addr) (ks : List Str), xs = [.ref l] ∧ SqL X.K H l (ks.map V.str) ∧ ks.length ≤ 2000 ∧ ∀ p c, H p = none → c ≤ ks.length → Q (.ref p) (upd H p (SsO X.prog X.w p (fun j => decide (j ∈ ks)) c))
theorem cr_setTx (hc : X.calm = true) : CallR X (.type "set") (rSetTx X) := by
  intro pins s σ H xs us Q I r h
  obtain ⟨l, ks, rfl, hq, hl, q⟩ := h
  rw [Vals.ref1 r]
  obtain ⟨its, rv, hil, _⟩ := I.list hq
  refine set_of_list ks (I.ok.hd hc) hil.isList rv.strs (by unfold scanBound; omega) fun h' tk c hS hc' k => ?_
  have fr : H s.heap.objs.size = none := I.hok.fresh (Nat.le_refl _)
  exact ⟨.ref _, _, I.laid (t' := tk) k (Nat.le_refl _) (sso_new hS), rfl, q _ c fr hc'⟩
theorem txts_of {P : Program} {w : World} : ∀ {l : List Value}, (∀ v ∈ l, ∃ k tk, v = Value.str k tk) → ∃ ks, StrsAre l ks ∧ l.map (fun v => txtOf (0, v)) = ks
  | [], _ => ⟨[], .nil, rfl⟩
  | v :: l, h => by
    obtain ⟨k, tk, rfl⟩ := h v List.mem_cons_self
    obtain ⟨ks, hk, e⟩ := txts_of (P := P) (w := w) fun u hu => h u (List.mem_cons_of_mem _ hu)
    exact ⟨k :: ks, .cons k tk hk, by rw [List.map_cons, e]; rfl⟩
end
end DL
namespace DL
open PySem PySem.Spec L2
def shrU (x y : U) (S : Sto) : R U := match x, y with
  | .int i, .int j => guard (decide (0 ≤ j)) (.ok (.int (i / 2 ^ j.toNat)) S)
  | _, _ => .bad
def andU (x y : U) (S : Sto) : R U := match x, y with
  | .int i, .int j => .ok (.int (Builtin.bitAnd i j)) S
  | _, _ => .bad
def orU (x y : U) (S : Sto) : R U := match x, y with
  | .int i, .int j => .ok (.int (Builtin.bitOr i j)) S
  | _, _ => .bad
def xorU (x y : U) (S : Sto) : R U := match x, y with
  | .int i, .int j => .ok (.int (Builtin.bitXor i j)) S
  | _, _ => .bad
section
variable {X : Cx}
theorem noX_shr (x y : U) (S : Sto) : noX (shrU x y S) := by unfold shrU; split <;> first | trivial | exact noX_guard trivial
theorem noX_and (x y : U) (S : Sto) : noX (andU x y S) := by unfold andU; split <;> trivial
theorem noX_or (x y : U) (S : Sto) : noX (orU x y S) := by unfold orU; split <;> trivial
theorem noX_xor (x y : U) (S : Sto) : noX (xorU x y S) := by unfold xorU; split <;> trivial
theorem os_shr : OpSim X (binaryOp .RShift) shrU := by
  refine ⟨_, op_shr, fun w x y v v' Q s rx ry h => ?_⟩
  unfold shrU at h
  split at h
  · obtain ⟨hl, h⟩ := guard_post h
    cases rx; cases ry; exact ⟨_, _, rfl, rfl, of_decide_eq_true hl, OkE.here h s (.int _)⟩
  · exact h.elim
theorem os_and : OpSim X (binaryOp .BitAnd) andU := by
  refine ⟨_, op_and, fun w x y v v' Q s rx ry h => ?_⟩
  unfold andU at h
  split at h
  · cases rx; cases ry; exact ⟨_, _, rfl, rfl, OkE.here h s (.int _)⟩
  · exact h.elim
theorem os_or : OpSim X (binaryOp .BitOr) orU := by
  refine ⟨_, op_or, fun w x y v v' Q s rx ry h => ?_⟩
  unfold orU at h
  split at h
  · cases rx; cases ry; exact ⟨_, _, rfl, rfl, OkE.here h s (.int _)⟩
  · exact h.elim
theorem os_xor : OpSim X (binaryOp .BitXor) xorU := by
  refine ⟨_, op_xor, fun w x y v v' Q s rx ry h => ?_⟩
  unfold xorU at h
  split at h
  · cases rx; cases ry; exact ⟨_, _, rfl, rfl, OkE.here h s (.int _)⟩
  · exact h.elim
end
end DL
namespace DL
open PySem PySem.Spec L2
section
variable {X : Cx} {Wx : WX}
def CallSimD (X : Cx) (f : Value) (g : List U → Sto → R (List Key × List U)) : Prop := ∃ r, CallR X f r ∧
  ∀ (w : Wd) (us : List U) (vs : List V) (Q : VK) (E : Exc → Sto → Prop), SR (KMof X) w → VRs (KMof X) w us vs → Pst (g us w.S) (OkD X w Q) E → (∀ x S, ¬ E x S) → r vs w.H Q
theorem sd_callTy {x : Str} {T : String} {p pos : Pos} {e : Expr} {es : List Expr} {fa : FA} {g : List U → Sto → R (List Key × List U)} (hx : ∀ us S y S', g us S ≠ .exc y S') (hc : CallSimD X (.type T) g) (hg : Gl X x) (hm : X.mg x = none) (hv : bootBuiltins x = some (.type T)) (ha : SimA X Wx (e :: es) fa) (hn : x ≠ "__name__" := by decide) (hdb : (x == ("__debug__" : Str)) = false := by decide)
    (he : starEach (e :: es) X.env = (false, eval e X.env) :: starEach es X.env := by rfl) (hpl : (backTo pos (starEach es X.env)).any (·.1) = false := by rfl) : SimD X Wx (.Call (.Name x p) (e :: es) [] pos) (fA g fa) := by
  obtain ⟨r, hc, hr⟩ := hc
  obtain ⟨ta, pa, ha⟩ := ha.out
  refine SimD.mk (pe_callTy hc hg hm hv pa hn hdb he hpl) (fun w d σ Q s e h => ?_)
  refine ha w d σ _ s e ((Pst.of_bind h).mono (fun us S1 h1 w1 vs eS st s1 rs => ?_) fun _ _ q => q)
  subst eS
  refine hr w1 us vs Q (fun _ _ => False) s1 rs ?_ (fun _ _ z => z)
  cases hq : g us w1.S with
  | ok a S => rw [hq] at h1; exact OkD.up h1 st
  | exc y S => exact absurd hq (hx _ _ _ _)
  | bad => rw [hq] at h1; exact h1.elim
def pairOf : U → Option (Key × U)
  | .tup [k, v] => (keyU k).map fun k => (k, v)
  | _ => none
def pairsOf : List U → Option (List (Key × U))
  | [] => some []
  | u :: us => match pairOf u, pairsOf us with
    | some p, some ps => some (p :: ps)
    | _, _ => none
def dictC (us : List U) (S : Sto) : R (List Key × List U) := match us with
  | [u] => match dictOf u S with
    | some p => .ok p S
    | none => match (DL.listOf u S).bind pairsOf with
      | some ps => .ok (mergeU ([], []) ps) S
      | none => .bad
  | _ => .bad
theorem dictC_noX (us : List U) (S : Sto) (y : Exc) (S' : Sto) : dictC us S ≠ .exc y S' := by
  unfold dictC
  split
  · split
    · intro h; cases h
    · split <;> (intro h; cases h)
  · intro h; cases h
theorem pairs_rel {w : Wd} : ∀ {us : List U} {vs : List V} {ps : List (Key × U)}, VRs (KMof X) w us vs → pairsOf us = some ps → ∃ (as : List Addr) (xs : List V), vs = as.map V.ref ∧ Paired (fun p kv => SqT X.K w.H p [kV kv.1, kv.2]) as ((ps.map (·.1)).zip xs) ∧ VRs (KMof X) w (ps.map (·.2)) xs
  | _, _, _, .nil, h => by cases h; exact ⟨[], [], rfl, .nil, .nil⟩
  | _, _, _, .cons (u := u) (us := us) r rs, h => by
    unfold pairsOf at h
    cases hp : pairOf u with
    | none => rw [hp] at h; cases h
    | some p =>
      cases hps : pairsOf us with
      | none => rw [hp, hps] at h; cases h
      | some ps =>
        rw [hp, hps] at h
        cases h
        obtain ⟨as, xs, rfl, pr, rx⟩ := pairs_rel rs hps
        unfold pairOf at hp
        split at hp
        · rename_i k v
          obtain ⟨kk, hk, rfl⟩ := Option.map_eq_some_iff.mp hp
          cases r with
          | tup hq rr =>
            cases rr with
            | cons r1 rr =>
              cases rr with
              | cons r2 rr =>
                cases rr
                have hk1 := keyU_ok r1 hk
                subst hk1
                exact ⟨_ :: as, _ :: xs, rfl, .cons hq.sq pr, .cons r2 rx⟩
        · cases hp
theorem cd_dict (hc : X.calm = true) : CallSimD X (.type "dict") dictC := by
  refine ⟨_, call_dictD.or (call_dictP hc), fun w us vs Q E s rs h hE => ?_⟩
  unfold dictC at h
  split at h
  · rename_i u
    cases rs with
    | cons r rs =>
      cases rs
      split at h
      · rename_i p hd
        obtain ⟨ks, us⟩ := p
        obtain ⟨a, xs, rfl, q, l, rx⟩ := dictOf_ok s r hd
        exact .inl ⟨a, _, rfl, .inl q, fun p hp => h w p xs rfl (Stp.refl w) s l rx hp⟩
      · split at h
        · rename_i ps hb
          obtain ⟨ls, hl, hps⟩ := Option.bind_eq_some_iff.mp hb
          obtain ⟨a, xs, rfl, q, rx⟩ := listOf_ok s r hl
          obtain ⟨as, ys, rfl, pr, ry⟩ := pairs_rel rx hps
          obtain ⟨zs, e1, r1, l1⟩ := merge_ok (ks := []) (us := []) (xs := []) ry rfl .nil
          refine .inr ⟨a, as, _, rfl, q, pr, fun p hp => ?_⟩
          have e2 : mergeK [] ((ps.map (·.1)).zip ys) = _ := e1
          rw [e2]
          exact h w p zs rfl (Stp.refl w) s l1 r1 hp
        · exact h.elim
  · exact h.elim
end
end DL
namespace DL
open PySem PySem.Spec L2 TL
def leT (a b : Str) : Bool := !ltCps (tl b) (tl a)
theorem leT_iff (a b : Str) : leT a b = true ↔ ¬ (tl b < tl a) := by
  unfold leT
  rw [PyProof.Rows.ltCps_eq, Bool.not_eq_true', decide_eq_false_iff_not]
theorem leT_total (a b : Str) : leT a b = true ∨ leT b a = true := by
  rw [leT_iff, leT_iff]
  by_cases h : tl b < tl a
  · exact .inr (List.lt_asymm h)
  · exact .inl h
theorem leT_trans {a b c : Str} (h1 : leT a b = true) (h2 : leT b c = true) : leT a c = true := by
  rw [leT_iff] at h1 h2 ⊢
  have h3 := List.le_trans (List.not_lt.mp h1) (List.not_lt.mp h2)
  exact List.not_lt.mpr h3
theorem leT_anti {a b : Str} (h1 : leT a b = true) (h2 : leT b a = true) : a = b := by
  rw [leT_iff] at h1 h2
  exact ext_tl (List.le_antisymm (List.not_lt.mp h1) (List.not_lt.mp h2))
theorem rising_pw : ∀ {p : Str} {l : List Str}, PyProof.Rows.risingS p l = true → (p :: l).Pairwise fun a b => leT a b = true
  | p, [], _ => List.pairwise_singleton _ _
  | p, x :: r, h => by
    have h : (!ltCps (tl x) (tl p) && PyProof.Rows.risingS x r) = true := h
    rw [Bool.and_eq_true] at h
    have ih := rising_pw h.2
    refine List.pairwise_cons.mpr ⟨fun y hy => ?_, ih⟩
    rcases List.mem_cons.mp hy with rfl | hy
    · exact h.1
    · exact leT_trans h.1 ((List.pairwise_cons.mp ih).1 y hy)
theorem sorted_pw {l : List Str} (h : PyProof.Rows.sortedS l = true) : l.Pairwise fun a b => leT a b = true := by
  cases l with
  | nil => exact List.Pairwise.nil
  | cons x r => exact rising_pw h
def sortT (ks : List Str) : List Str := ks.mergeSort leT
theorem sortT_perm (ks : List Str) : (sortT ks).Perm ks := List.mergeSort_perm ks leT
theorem sortT_pw (ks : List Str) : (sortT ks).Pairwise fun a b => leT a b = true := List.pairwise_mergeSort (le := leT) (fun _ _ _ h1 h2 => leT_trans h1 h2) (fun a b => by simpa [Bool.or_eq_true] using leT_total a b) ks
theorem pw_unique : ∀ {l m : List Str}, l.Perm m → l.Pairwise (fun a b => leT a b = true) → m.Pairwise (fun a b => leT a b = true) → l = m
  | [], m, p, _, _ => p.nil_eq
  | x :: l, [], p, _, _ => absurd p.symm.nil_eq (by intro h; cases h)
  | x :: l, y :: m, p, h1, h2 => by
    have hx : x ∈ y :: m := p.mem_iff.mp List.mem_cons_self
    have hy : y ∈ x :: l := p.mem_iff.mpr List.mem_cons_self
    have e : x = y := by
      rcases List.mem_cons.mp hx with e | hx
      · exact e
      · rcases List.mem_cons.mp hy with e | hy
        · exact e.symm
        · exact leT_anti ((List.pairwise_cons.mp h1).1 y hy) ((List.pairwise_cons.mp h2).1 x hx)
    subst e
    rw [pw_unique (List.Perm.cons_inv p) (List.pairwise_cons.mp h1).2 (List.pairwise_cons.mp h2).2]
theorem sorted_eq {ys ks : List Str} (p : ys.Perm ks) (h : PyProof.Rows.sortedS ys = true) : ys = sortT ks := pw_unique (p.trans (sortT_perm ks).symm) (sorted_pw h) (sortT_pw ks)
end DL
namespace DL
open PySem PySem.Spec L2 TL
section
variable {X : Cx} {Wx : WX}
def keysS : List Key → Option (List Str)
  | [] => some []
  | .inr k :: ks => (keysS ks).map (k :: ·)
  | _ => none
theorem keysS_ok : ∀ {ks : List Key} {zs : List Str}, keysS ks = some zs → ks = zs.map Sum.inr
  | [], _, h => by cases h; rfl
  | .inr k :: ks, _, h => by
    unfold keysS at h
    obtain ⟨zs, e, rfl⟩ := Option.map_eq_some_iff.mp h
    rw [keysS_ok e]; rfl
  | .inl k :: ks, _, h => by unfold keysS at h; cases h
def sortedC (us : List U) (S : Sto) : R (List U) := match us with
  | [u] => match dictOf u S with
    | some p => match keysS p.1 with
      | some zs => guard (decide (zs.length < 64)) (.ok ((sortT zs).map .str) S)
      | none => .bad
    | none => match (DL.listOf u S).bind strsOf with
      | some zs => guard (decide (zs.length < 64)) (.ok ((sortT zs).map .str) S)
      | none => .bad
  | _ => .bad
theorem cl_sorted (hc : X.calm = true) : CallSimL X (.builtin "sorted") sortedC := by
  refine ⟨_, (call_sortedD hc).or cr_sortedS, fun w us vs Q E s rs h => ?_⟩
  have fin : ∀ {zs ys : List Str} {p : Addr}, OkL X w Q ((sortT zs).map .str) w.S → ys.Perm zs → PyProof.Rows.sortedS ys = true → w.H p = none → Q (.ref p) (upd w.H p (.lst (ys.map V.str))) := fun {zs ys p} h1 pm so hp => by
    rw [sorted_eq pm so]
    exact h1 w p _ rfl (Stp.refl w) s (strs_rel _) hp
  unfold sortedC at h
  split at h
  · rename_i u
    cases rs with
    | cons r rs =>
      cases rs
      split at h
      · rename_i p hd
        obtain ⟨ks, us⟩ := p
        split at h
        · rename_i zs hk
          obtain ⟨hl, h⟩ := guard_post h
          have hk := keysS_ok hk
          obtain ⟨a, xs, rfl, q, l, rx⟩ := dictOf_ok s r hd
          refine .inl ⟨a, _, zs, rfl, .inl q, ?_, of_decide_eq_true hl, fun ys p pm so hp => fin h pm so hp⟩
          rw [List.map_fst_zip (by rw [← rx.length, ← l]; exact Nat.le_refl _)]
          exact hk
        · exact h.elim
      · split at h
        · rename_i zs hb
          obtain ⟨hl, h⟩ := guard_post h
          obtain ⟨ls, hls, hzs⟩ := Option.bind_eq_some_iff.mp hb
          obtain ⟨a, xs, rfl, q, rx⟩ := listOf_ok s r hls
          have e := strsOf_ok rx hzs
          subst e
          exact .inr ⟨a, zs, rfl, q, of_decide_eq_true hl, fun ys p pm so hp => fin h pm so hp⟩
        · exact h.elim
  · exact h.elim
end
end DL
namespace DL
open PySem PySem.Spec L2
section
variable {X : Cx} {Wx : WX}
def aAdd (fa fb : FE) : FA := fun d S => (fa d S).bind fun x S1 => (fb d S1).bind fun y S2 => match listM x S2, listM y S2 with
  | some a, some b => guard (decide (a.length + b.length ≤ sizeLine)) (.ok (a ++ b) S2)
  | _, _ => .bad
def enumU : Nat → List U → List U
  | _, [] => []
  | n, u :: us => .tup [.int (n : Nat), u] :: enumU (n + 1) us
theorem enumU_len : ∀ (n : Nat) (us : List U), (enumU n us).length = us.length
  | _, [] => rfl
  | n, u :: us => by show (enumU (n + 1) us).length + 1 = _; rw [enumU_len (n + 1) us]; rfl
theorem enumU_get : ∀ {n : Nat} {us : List U} {i : Nat} {u : U}, (enumU n us)[i]? = some u → ∃ y, us[i]? = some y ∧ u = .tup [.int ((n + i : Nat) : Int), y]
  | _, [], _, _, h => by simp [enumU] at h
  | n, y :: us, 0, u, h => by
    have h : some (U.tup [.int (n : Nat), y]) = some u := h
    cases h
    exact ⟨y, rfl, rfl⟩
  | n, y :: us, i + 1, u, h => by
    obtain ⟨z, h1, h2⟩ := enumU_get (n := n + 1) (us := us) (i := i) (u := u) h
    exact ⟨z, h1, by rw [h2, show n + 1 + i = n + (i + 1) by omega]⟩
theorem it_enum {K : KM} {w : Wd} {a : Addr} {us : List U} (hk : ∀ w', Ext w w' → ∃ xs, SqL K w'.H a xs ∧ VRs K w' us xs) : ItSim K w (Ite K a) (enumU 0 us) := fun w' i x s => by
  obtain ⟨xs, hq, rs⟩ := hk w' x
  refine ⟨fun u hu => ?_, fun h => ⟨xs, hq, by rw [← rs.length]; rw [enumU_len] at h; exact h⟩⟩
  obtain ⟨y, hy, rfl⟩ := enumU_get hu
  obtain ⟨z, hz, rz⟩ := rs.get hy
  refine ⟨⟨xs, z, hq, hz⟩, fun v H' q => ?_⟩
  obtain ⟨T, z', rfl, hT, rfl, hz'⟩ := q
  have e := hz' xs hq
  rw [hz] at e
  cases e
  have st := Stp.new s (o := .tup [.int (i : Nat), z]) hT
  refine ⟨w'.new T _, rfl, rfl, st, s.new hT, ?_⟩
  rw [Nat.zero_add]
  exact .tup (TqT.of upd_same) (.cons (.int _) (.cons (rz.ext st.x s) .nil))
theorem ER.same {w : Wd} {d : En} {σ : L2.St} {i : Nat} {u : U} {v : V} (e : ER (KMof X) w d σ) (h : σ[i]? = some (some v)) (r : VR (KMof X) w u v) : ER (KMof X) w (d.set i (some u)) σ := by
  have z := e.set i r
  have q : σ.set i (some v) = σ := by
    apply List.ext_getElem?
    intro j
    by_cases hj : i = j
    · subst hj
      rw [List.getElem?_set_self (List.getElem?_eq_some_iff.mp h).1, h]
    · rw [List.getElem?_set_ne hj]
  rw [q] at z
  exact z
end
end DL
namespace DL
open PySem PySem.Spec L2 PySem.W
def clsInit (s : Stmt) : Stmt := match s with
  | .ClassDef _ _ _ body _ _ _ _ _ _ _ => body.getD 0 (.Pass ⟨0, 0, 0, 0⟩)
  | s => s
def oxB (K : Frag) (C I : Addr) (f : Str) (bm : List Value) : Bool :=
  decide (findIn K (.ref C) "__setattr__" = some (some (.builtin "object.__setattr__"))) && (decide (subIn K (.ref C) (.type "BaseException") = some true) && (decide (typeIn K (.ref C) = some (.type "type")) && (keepIn K (.ref C) && (excOver K C bm && (hasDictIn K C && (decide (typeIn K (.ref I) = some (.type "function")) && (decide (findIn K (.ref C) f = some none) &&
  (decide (findIn K (.ref C) "__getattribute__" = some (some (.builtin "BaseException.__getattribute__"))) && (decide (findIn K (.ref C) "__getattr__" = some none) && (decide (findIn K (.ref C) "__class__" = some (some (.builtin "object.__class__"))) && (decide (specialIn K (.builtin "object.__class__") "__get__" = some (some (.builtin "getset_descriptor.__get__"))) && (decide (takesIn K (.builtin "object.__class__") = some true) && decide (mroIn K C (.type "object") = some true)))))))))))))
structure XC (K : Frag) (mg : Str → Option Value) (x xi f : Str) (C I : Addr) (fd : FuncData) (st : Stmt) (newId : String) (bm : List Value) : Prop where
  mc : mg x = some (.ref C)
  ox : OxC K C newId bm
  ic : findIn K (.ref C) "__init__" = some (some (.ref I))
  ti : typeIn K (.ref I) = some (.type "function")
  fi : Fun K "__init__" (x ++ ".__init__") st I fd
  bi : Binds K fd ["self", xi] []
  nf : findIn K (.ref C) f = some none
  xf : XfC K C
  ec : ExcC K C
theorem xc_mk {K : Frag} {mg : Str → Option Value} {x xi f : Str} {C I : Addr} {fd : FuncData} {st : Stmt} {newId : String} {bm : List Value} {nm q : Str} {N : Addr} {bs : List Value} {sn : List Str} {sub : List Value} {ab : Bool} {col : Option Bool} {dd : Option Addr} {m0 m1 m2 m3 m5 : Option Value}
    (mc : mg x = some (.ref C)) (l : K.lookup C = some (excClassObj nm q C N bs bm true sn sub ab col dd m0 m1 m2 m3 m5 newId)) (ic : findIn K (.ref C) "__init__" = some (some (.ref I))) (fi : Fun K "__init__" (x ++ ".__init__") st I fd) (bi : Binds K fd ["self", xi] []) (h : oxB K C I f bm = true) : XC K mg x xi f C I fd st newId bm := by
  unfold oxB at h
  simp only [Bool.and_eq_true, decide_eq_true_eq] at h
  obtain ⟨h1, h2, h3, h4, h5, h6, h7, h8, h9, h10, h11, h12, h13, h14⟩ := h
  exact ⟨mc, ⟨⟨nm, q, N, bs, sn, sub, ab, col, dd, m0, m1, m2, m3, m5, l⟩, h1, h2, h3, h4, h5, h6⟩, ic, h7, fi, bi, h8, ⟨h9, h10, h2, h6⟩, ⟨h9, h10, h2, h6, h11, h12, h13, h14⟩⟩
def isB (K : Frag) : List (Addr × Value × Bool) → Bool
  | [] => true
  | (C, v, b) :: r => decide (kitOne K (.ref C) v = some b) && isB K r
theorem IsOk.n {K : Frag} {mg : Str → Option Value} : isB K [] = true → IsOk K mg [] := fun _ => ⟨fun _ _ _ h => (by cases h), fun _ _ _ h => (by cases h)⟩
theorem IsOk.o {K : Frag} {mg : Str → Option Value} {tab : IsTab} {c c2 : Str} {C C2 : Addr} {b : Bool} {L : List (Addr × Value × Bool)} (hm : mg c = some (.ref C)) (hm2 : mg c2 = some (.ref C2)) (E : ExcC K C) (r : isB K L = true → IsOk K mg tab) : isB K ((C, .ref C2, b) :: L) = true → IsOk K mg (((c, .inl c2), b) :: tab) := fun h => by
  unfold isB at h
  rw [Bool.and_eq_true] at h
  have r := r h.2
  have hk := of_decide_eq_true h.1
  refine ⟨fun x y d hl D D2 hD hD2 => ?_, fun x n d hl D hD => ?_⟩
  · unfold lookI at hl
    split at hl
    · rename_i q
      obtain ⟨rfl, q⟩ := q
      cases q
      cases hl
      rw [hm] at hD
      rw [hm2] at hD2
      cases hD
      cases hD2
      exact ⟨E, hk⟩
    · exact r.own x y d hl D D2 hD hD2
  · unfold lookI at hl
    split at hl
    · rename_i q
      cases q.2
    · exact r.blt x n d hl D hD
theorem IsOk.t {K : Frag} {mg : Str → Option Value} {tab : IsTab} {c : Str} {n : String} {C : Addr} {b : Bool} {L : List (Addr × Value × Bool)} (hm : mg c = some (.ref C)) (E : ExcC K C) (r : isB K L = true → IsOk K mg tab) : isB K ((C, .type n, b) :: L) = true → IsOk K mg (((c, .inr n), b) :: tab) := fun h => by
  unfold isB at h
  rw [Bool.and_eq_true] at h
  have r := r h.2
  have hk := of_decide_eq_true h.1
  refine ⟨fun x y d hl D D2 hD hD2 => ?_, fun x n d hl D hD => ?_⟩
  · unfold lookI at hl
    split at hl
    · rename_i q
      cases q.2
    · exact r.own x y d hl D D2 hD hD2
  · unfold lookI at hl
    split at hl
    · rename_i q
      obtain ⟨rfl, q⟩ := q
      cases q
      cases hl
      rw [hm] at hD
      cases hD
      exact ⟨E, hk⟩
    · exact r.blt x n d hl D hD
def exB (K : Frag) (c : Value) : List (Addr × Bool) → Bool
  | [] => true
  | (C, b) :: r => decide (exmOne K (.ref C) c = some b) && exB K c r
def lookM : List (Str × Bool) → Str → Option Bool
  | [], _ => none
  | (c, b) :: r, z => if c = z then some b else lookM r z
def ExOk (K : Frag) (mg : Str → Option Value) (c : Value) (m : Str → Option Bool) : Prop := ∀ z b, m z = some b → ∀ cls, mg z = some cls → exmOne K cls c = some b ∧ ∃ C, cls = .ref C
theorem ExOk.n {K : Frag} {mg : Str → Option Value} {c : Value} : exB K c [] = true → ExOk K mg c (lookM []) := fun _ z b h => by cases h
theorem ExOk.o {K : Frag} {mg : Str → Option Value} {c : Value} {x : Str} {C : Addr} {b : Bool} {L : List (Addr × Bool)} {tab : List (Str × Bool)} (hm : mg x = some (.ref C)) (r : exB K c L = true → ExOk K mg c (lookM tab)) : exB K c ((C, b) :: L) = true → ExOk K mg c (lookM ((x, b) :: tab)) := fun h z d hl cls hc => by
  unfold exB at h
  rw [Bool.and_eq_true] at h
  unfold lookM at hl
  split at hl
  · rename_i q
    subst q
    cases hl
    rw [hm] at hc
    cases hc
    exact ⟨of_decide_eq_true h.1, C, rfl⟩
  · exact r h.2 z d hl cls hc
theorem fn_bad {P : Program} {w : World} {K : PySem.W.Frag} {mg : Str → Option Value} {base : Heap} {f : Addr} {fd : FuncData} {ps : List Str} {g : List U → Sto → R U} (hg : ∀ us S, g us S = .bad) (n k : Nat) : FnOk P w K mg base (L2.CX P w) k f fd ps (spOf ⟨K, mg, P, w⟩ n g) := by
  have no : ∀ vs H Q E, ¬ spOf ⟨K, mg, P, w⟩ n g vs H Q E := fun vs H Q E ⟨w, us, _, _, _, _, q⟩ => by rw [hg] at q; exact q
  exact ⟨fun vs H Q E h => (no vs H Q E h).elim, fun A outer s H as us vs Q E _ _ _ _ h => (no vs H Q E h).elim⟩
end DL
namespace DL
open PySem PySem.Spec L2
def nubT : List Str → List Str
  | [] => []
  | x :: r => if x ∈ r then nubT r else x :: nubT r
theorem nubT_mem {x : Str} : ∀ {l : List Str}, x ∈ nubT l ↔ x ∈ l
  | [] => Iff.rfl
  | y :: r => by
    unfold nubT
    by_cases h : y ∈ r
    · rw [if_pos h, nubT_mem, List.mem_cons]
      exact ⟨.inr, fun q => q.elim (fun e => e ▸ h) id⟩
    · rw [if_neg h, List.mem_cons, List.mem_cons, nubT_mem]
theorem nubT_nodup : ∀ l : List Str, (nubT l).Nodup
  | [] => List.nodup_nil
  | y :: r => by
    unfold nubT
    by_cases h : y ∈ r
    · rw [if_pos h]; exact nubT_nodup r
    · rw [if_neg h]; exact List.nodup_cons.mpr ⟨fun q => h (nubT_mem.mp q), nubT_nodup r⟩
section
variable {X : Cx} {Wx : WX}
end
end DL
namespace DL
open PySem PySem.Spec L2
section
variable {K : KM} {w : Wd}
end
section
variable {X : Cx} {Wx : WX}
section
variable {CX : CXT} {k : Nat} {f C : Addr} {fd : FuncData} {ps : List Str} {sp : Sp} {E : L2.St → XK} {x m : Str} {p pos apos : Pos} {e o : Expr} {es : List Expr} {ta : TE} {t : TA}
end
section
variable {k n : Nat} {f C : Addr} {fd : FuncData} {ps : List Str} {c m : Str} {p pos apos : Pos} {e o : Expr} {es : List Expr} {fo : FE} {fa : FA} {g : List U → Sto → R U}
end
section
variable {CX : CXT} {k : Nat} {f C : Addr} {fd : FuncData} {ps : List Str} {sp : Sp} {E : L2.St → XK} {x : Str} {p pos : Pos} {e : Expr} {es : List Expr} {t : TA}
end
section
variable {k n : Nat} {f C : Addr} {fd : FuncData} {ps : List Str} {x : Str} {p pos : Pos} {e : Expr} {es : List Expr} {fa : FA} {g : List U → Sto → R U}
end
end
end DL
set_option maxHeartbeats 1000000
namespace DL
open PySem PySem.Calls PySem.W PySem.SeqAt PyProof.Rows
def SrtOk (ds : List PyData) : Prop := (∀ d, d ∈ ds → ∃ xs, d = .tuple xs) ∨ ∀ d, d ∈ ds → d ≠ .none ∧ ∀ xs, d ≠ .tuple xs
section
variable {prog : Program} {w : World} {A : Around} {E : Value → Shared → Prop} {s : Shared}
theorem call_tup_lt {Q : Value → Shared → Prop} {l b : Addr} {items items2 : Array Value} {e r : Nat → Bool} (hl : s.heap.IsTuple l items) (hb : s.heap.IsTuple b items2)
    (he : ∀ j (h1 : j < items.size) (h2 : j < items2.size), EqAt A.in1 s items[j] items2[j] (e j)) (hr : ∀ j (h1 : j < items.size) (h2 : j < items2.size), e j = false → RcLt A.in1 s items[j] items2[j] (r j))
    (h : Q (.bool (firstLt e r (decide (items.size < items2.size)) (List.range (min items.size items2.size)))) s) : wpAny (model prog w) A (call (.builtin "tuple.__lt__") [.ref l, .ref b]) Q E s := by
  obtain ⟨⟨cls, dd, data, sl⟩, ho, hc, n, hd⟩ := id hl
  obtain ⟨⟨cls2, dd2, data2, sl2⟩, ho2, hc2, n2, hd2⟩ := id hb
  simp only at hc hd hc2 hd2
  subst hc hd hc2 hd2
  exact call_meets F.slot_tuple_lt ⟨_, ho, rfl⟩ F.entry_tuple_lt (F.args_tuple_lt_2 _ _) (tuple_ltAt l b items items2 n n2 dd dd2 sl sl2 e r) ⟨ho, ho2, he, hr, h⟩
theorem tup_own {xs ys : List PyData} {a b : Value} {as bs : List Addr} {Q : Bool → Shared → Prop} (ra : Reads s.heap a (.tuple xs) as) (rb : Reads s.heap b (.tuple ys) bs) (hal : alikeAll xs ys = true)
    (hu : A.units + min (PyData.tuple xs).depth (PyData.tuple ys).depth < cLine) (hq : Q (dataLt (.tuple xs) (.tuple ys)) s) : wpAny (model prog w) A (oneLt' true a b) Q E s := by
  cases ra with
  | @tuple l o vs n _ as₁ h1 h2 h3 h4 =>
    cases rb with
    | @tuple l' o' vs' n' _ bs₁ k1 k2 k3 k4 =>
      have n1 : vs.size = xs.length := by simpa using ReadsAll.length _ _ _ h4
      have n2 : vs'.size = ys.length := by simpa using ReadsAll.length _ _ _ k4
      rw [dataLt_tuple, ← firstLt_toks xs ys hal, ← n1, ← n2] at hq
      rw [oneLt'_eq]
      simp only [if_true]
      refine wpAny_bind (wpAny_cRoomFor (room_here hu) ?_)
      refine wpAny_bind (wpAny_callSpecialIfBound?_slot (T := "tuple") ⟨_, h1, h2⟩ F.slot_tuple_lt (call_tup_lt (e := pairEq xs ys) (r := fun j => dataLt (xs.getD j .none) (ys.getD j .none)) ⟨_, h1, h2, _, h3⟩ ⟨_, k1, k2, _, k3⟩ (fun j j1 j2 => ?_) (fun j j1 j2 hj => ?_) ?_))
      · have := eqAt_alikeAll xs ys A.in1 s vs.toList vs'.toList _ _ h4 k4 hal (room_in hu) j (by simpa using j1) (by simpa using j2)
        simpa using this
      · have := rcLt_alikeAll xs ys A.in1 s vs.toList vs'.toList _ _ h4 k4 hal (room_in hu) j (by simpa using j1) (by simpa using j2) hj
        simpa using this
      · exact wpAny_truthy_bool hq
theorem keyLt_gen (x y : Value) : keyLt' general' x y = oneLt' false x y := rfl
theorem firsts_of : ∀ {vs : List Value} {ds : List PyData} {Q : List (Option Value) → Shared → Prop}, EachIs (fun v d => ∃ as, Reads s.heap v d as) vs ds → (∀ d ∈ ds, ∃ xs, d = .tuple xs) →
    (∀ fs : List (Option Value), fs.map Option.isSome = ds.map (fun d => match d with | .tuple (_ :: _) => true | _ => false) → Q fs s) → wpAny (model prog w) A (vs.mapM firstOfTuple') Q E s
  | _, _, Q, .nil, _, h => by rw [List.mapM_nil]; exact wpAny_pure (h [] rfl)
  | _, _, Q, .cons (a := v) (b := d) (as := vs) (bs := ds) ⟨as, r⟩ t, ht, h => by
    obtain ⟨xs, rfl⟩ := ht d List.mem_cons_self
    rw [List.mapM_cons]
    cases r with
    | @tuple a o its n _ _ ho hc hd hr =>
      have hl : its.size = xs.length := by simpa using ReadsAll.length _ _ _ hr
      refine wpAny_bind ?_
      rw [kas_first_eq]
      refine wpAny_bind (Looks.here (show Looks (model prog w) s.heap (typeOf (.ref a)) o.cls from (Looks.ld ho).andThen .now) ?_)
      rw [hc, if_neg (by first | decide | simp)]
      refine wpAny_bind (listItems_at ho hd (wpAny_pure ?_))
      refine wpAny_bind (firsts_of (Q := fun bs s' => wpAny (model prog w) A (pure (its[0]? :: bs)) Q E s') t (fun d hd => ht d (List.mem_cons_of_mem _ hd)) fun fs hf => wpAny_pure (h _ ?_))
      rw [List.map_cons, List.map_cons, hf]
      congr 1
      cases xs with
      | nil =>
        have : its[0]? = none := by rw [Array.getElem?_eq_none_iff, hl]; exact Nat.le_refl _
        rw [this]; rfl
      | cons x r =>
        have : 0 < its.size := by rw [hl]; simp
        rw [Array.getElem?_eq_getElem this]; rfl
theorem sorts_alike {vs : List Value} {ds : List PyData} (e : EachIs (fun v d => ∃ as, Reads s.heap v d as) vs ds) (hal : AllAlike ds) (hk : SrtOk ds) (hu : ∀ d, d ∈ ds → A.units + d.depth < cLine) : SortsAt prog w A s (dataKind s.heap ds) vs := by
  rcases hk with ht | hn
  · by_cases hf : ∀ d, d ∈ ds → ∃ x r, d = .tuple (x :: r)
    · exact SortsAt.data e hal (.inl hf) hu
    · obtain ⟨d0, hd0, hne⟩ : ∃ d0, d0 ∈ ds ∧ d0 = .tuple [] := Classical.byContradiction fun z => hf fun d hd => by
        obtain ⟨xs, rfl⟩ := ht d hd
        cases xs with
        | nil => exact absurd ⟨_, hd, rfl⟩ z
        | cons x r => exact ⟨x, r, rfl⟩
      have room : ∀ {d d' : PyData}, d ∈ ds → A.units + min d.depth d'.depth < cLine := fun {d d'} hd => Nat.lt_of_le_of_lt (Nat.add_le_add_left (Nat.min_le_left _ _) _) (hu d hd)
      refine ⟨fun v hv => ?_, ?_⟩
      · obtain ⟨d, hd, as, r⟩ := e.left v hv
        exact ⟨_, dataKind_some hal hd r⟩
      · cases ds with
        | nil => cases hd0
        | cons d1 ds1 =>
          have notAll : ∀ fs : List (Option Value), fs.map Option.isSome = (d1 :: ds1).map (fun d => match d with | .tuple (_ :: _) => true | _ => false) → ¬ (fs.toArray.all fun x => x.isSome) = true := fun fs hfs z => by
            have z2 : ∀ b ∈ fs.map Option.isSome, b = true := by
              intro b hb
              obtain ⟨x, hx, rfl⟩ := List.mem_map.mp hb
              rw [List.all_toArray, List.all_eq_true] at z
              exact z x hx
            rw [hfs] at z2
            have := z2 _ (List.mem_map.mpr ⟨d0, hd0, rfl⟩)
            rw [hne] at this
            cases this
          obtain ⟨x1, e1⟩ := ht d1 List.mem_cons_self
          by_cases h1 : ∃ y r, x1 = y :: r
          · obtain ⟨y, r, rfl⟩ := h1
            refine ⟨general', ?_, fun h2 E Q hq => ?_⟩
            · intro E x y a b Q ha hb hq
              obtain ⟨d, as, hd, ra, rfl⟩ := dataKind_inv ha
              obtain ⟨d', as', hd', rb, rfl⟩ := dataKind_inv hb
              rw [keyLt_gen]
              exact oneLt_alike (fun z => nomatch z) ra rb (hal d hd d' hd') (by obtain ⟨t, rfl⟩ := ht d hd; intro z; cases z) (room hd) hq
            · rw [kat_kind_eq, List.mapM_toArray, map_eq_pure_bind]
              refine wpAny_bind (wpAny_bind (firsts_of e ht fun fs hfs => wpAny_pure ?_))
              rw [if_neg (notAll fs hfs)]
              have : ((fs.toArray)[0]?.bind id).isSome = true := by
                cases fs with
                | nil => cases hfs
                | cons f fr =>
                  rw [List.map_cons, List.map_cons, e1] at hfs
                  have := (List.cons.inj hfs).1
                  simpa using this
              rw [if_pos this]
              exact wpAny_pure hq
          · refine ⟨oneType', ?_, fun h2 E Q hq => ?_⟩
            · intro E x y a b Q ha hb hq
              obtain ⟨d, as, hd, ra, rfl⟩ := dataKind_inv ha
              obtain ⟨d', as', hd', rb, rfl⟩ := dataKind_inv hb
              obtain ⟨t, rfl⟩ := ht d hd
              obtain ⟨t', rfl⟩ := ht d' hd'
              rw [keyLt'_oneType]
              exact tup_own ra rb (by simpa [alike] using hal _ hd _ hd') (room hd) hq
            · have hx : x1 = [] := by
                cases x1 with
                | nil => rfl
                | cons y r => exact absurd ⟨y, r, rfl⟩ h1
              have hT : ∀ v ∈ vs, Looks (model prog w) s.heap (typeOf v) (.type "tuple") := fun v hv => by
                obtain ⟨d, hd, as, r⟩ := e.left v hv
                obtain ⟨t, rfl⟩ := ht d hd
                exact looks_reads r
              obtain ⟨v1, vr, rfl⟩ : ∃ v1 vr, vs = v1 :: vr := by
                cases vs with
                | nil => simp at h2
                | cons v1 vr => exact ⟨v1, vr, rfl⟩
              rw [kat_kind_eq, List.mapM_toArray, map_eq_pure_bind]
              refine wpAny_bind (wpAny_bind (firsts_of e ht fun fs hfs => wpAny_pure ?_))
              rw [if_neg (notAll fs hfs)]
              have : ¬ ((fs.toArray)[0]?.bind id).isSome = true := by
                cases fs with
                | nil => cases hfs
                | cons f fr =>
                  rw [List.map_cons, List.map_cons, e1, hx] at hfs
                  have := (List.cons.inj hfs).1
                  simpa using this
              rw [if_neg this, oneTypeOnly'_eq, List.mapM_toArray, map_eq_pure_bind]
              refine wpAny_bind (wpAny_bind (wpAny_bind (kas_mapM (r := Value.type "tuple") _ (fun v hv Q' hq => (hT v hv).here hq) (wpAny_pure ?_))))
              have hall : ((List.map (fun _ => Value.type "tuple") (v1 :: vr)).toArray.all fun x => x == Value.type "tuple") = true := by
                simp only [List.all_toArray, List.all_map, List.all_eq_true]
                intro _ _
                exact beq_self_eq_true _
              have h0 : (List.map (fun _ => Value.type "tuple") (v1 :: vr)).toArray[0]? = some (Value.type "tuple") := by simp
              rw [h0]
              simp only [hall, if_true]
              exact wpAny_pure (wpAny_pure hq)
  · exact SortsAt.data e hal (.inr hn) hu
end
end DL
namespace DL
open PySem PySem.Spec L2
def dOf (u : U) : PyData := (toD u).getD .none
def leD (a b : U) : Bool := !PySem.W.dataLt (dOf b) (dOf a)
def sortD (us : List U) : List U := us.mergeSort leD
def fullT : PyData → Bool
  | .tuple _ => true
  | _ => false
def noTup : PyData → Bool
  | .none => false
  | .tuple _ => false
  | _ => true
def sortOk (ds : List PyData) : Bool := (ds.all fun d => ds.all fun e => PySem.W.alike d e) && ((ds.all fullT || ds.all noTup) && ds.all fun d => decide (d.depth ≤ 60))
theorem sortOk_ok {ds : List PyData} (h : sortOk ds = true) : PySem.W.AllAlike ds ∧ SrtOk ds ∧ ∀ d ∈ ds, d.depth ≤ 60 := by
  unfold sortOk at h
  rw [Bool.and_eq_true, Bool.and_eq_true, Bool.or_eq_true] at h
  obtain ⟨h1, h2, h3⟩ := h
  refine ⟨fun d hd e he => List.all_eq_true.mp (List.all_eq_true.mp h1 d hd) e he, ?_, fun d hd => of_decide_eq_true (List.all_eq_true.mp h3 d hd)⟩
  rcases h2 with h2 | h2
  · refine .inl fun d hd => ?_
    have := List.all_eq_true.mp h2 d hd
    cases d with
    | tuple xs => exact ⟨xs, rfl⟩
    | _ => cases this
  · refine .inr fun d hd => ?_
    have := List.all_eq_true.mp h2 d hd
    cases d with
    | none => cases this
    | tuple xs => cases this
    | _ => exact ⟨(by intro z; cases z), (by intro xs z; cases z)⟩
section
variable {X : Cx} {Wx : WX}
def rSortD (X : Cx) : List V → Hp → VK → Prop := fun xs H Q => ∃ (a : Addr) (bs : List (V × PyData)), xs = [.ref a] ∧ SqL X.K H a (bs.map (·.1)) ∧ (∀ b ∈ bs, Dp X.K H b.1 b.2) ∧ PySem.W.AllAlike (bs.map (·.2)) ∧ SrtOk (bs.map (·.2)) ∧ (∀ d ∈ bs.map (·.2), d.depth ≤ 60) ∧
  ∀ p, H p = none → Q (.ref p) (upd H p (.lst ((bs.mergeSort (PySem.W.sortLe (PyProof.Rows.listOrd PyProof.Rows.itemOrd) false fun b => PySem.W.keyToks b.2)).map (·.1))))
theorem each_of {bs : List (V × PyData)} {its : List Value} {R : Value → V × PyData → Prop} (h : ∀ b ∈ bs, ∀ u, RelV b.1 u → R u b) : Vals (bs.map (·.1)) its → PySem.W.EachIs R its bs := by
  intro r
  induction bs generalizing its with
  | nil => cases r; exact .nil
  | cons b bs ih =>
    rw [List.map_cons] at r
    cases r with
    | cons r1 r2 => exact .cons (h b List.mem_cons_self _ r1) (ih (fun c hc => h c (List.mem_cons_of_mem _ hc)) r2)
theorem each_vals {bs : List (V × PyData)} {its : List Value} (h : PySem.W.EachIs (fun u (b : V × PyData) => RelV b.1 u) its bs) : Vals (bs.map (·.1)) its := by
  induction h with
  | nil => exact .nil
  | cons h1 _ ih => exact .cons h1 ih
theorem cr_sortD (hu : X.A.units + 64 < cLine) : CallR X (.builtin "sorted") (rSortD X) := by
  intro pins s σ H xs us Q I r h
  obtain ⟨a, bs, rfl, hq, hd, al, so, dp, q⟩ := h
  rw [Vals.ref1 r]
  obtain ⟨its, rv, hil, hz⟩ := I.list hq
  have hL : its.length ≤ sizeLine := by rw [← rv.length]; exact hz
  have e1 : PySem.W.EachIs (fun u (b : V × PyData) => RelV b.1 u ∧ ∃ as, Reads s.heap u b.2 as) its bs := each_of (fun b hb u ru => ⟨ru, Dp.reads I b.2 b.1 u (hd b hb) ru⟩) rv
  have keep := fun b o e => PySem.W.sorting_copy_old (h := s.heap) (vs := its) (b := b) (o := o) e
  have e2 : PySem.W.EachIs (fun u d => ∃ as, Reads (PySem.W.sortingHeap (PySem.W.copyHeap s.heap its) (s.heap.objs.size + 1) its) u d as) its (bs.map (·.2)) := by
    have go : ∀ {l : List Value} {m : List (V × PyData)}, PySem.W.EachIs (fun u (b : V × PyData) => RelV b.1 u ∧ ∃ as, Reads s.heap u b.2 as) l m → PySem.W.EachIs (fun u d => ∃ as, Reads (PySem.W.sortingHeap (PySem.W.copyHeap s.heap its) (s.heap.objs.size + 1) its) u d as) l (m.map (·.2)) := by
      intro l m h
      induction h with
      | nil => exact .nil
      | cons h1 _ ih => obtain ⟨_, as, ra⟩ := h1; exact .cons ⟨as, PyProof.Rows.Reads.keeps keep ra⟩ ih
    exact go e1
  have S := sorts_alike (prog := X.prog) (w := X.w) (A := X.A.in1.in1) (s := { s with heap := PySem.W.sortingHeap (PySem.W.copyHeap s.heap its) (s.heap.objs.size + 1) its }) e2 al so (fun d hm => by
    have := dp d hm
    show X.A.units + 1 + 1 + d.depth < cLine
    omega)
  refine PySem.W.sorted_vals hil.isList S hL ?_
  have key : PySem.W.EachIs (fun v (b : V × PyData) => (PySem.W.dataKind (PySem.W.sortingHeap (PySem.W.copyHeap s.heap its) (s.heap.objs.size + 1) its) (bs.map (·.2))).keyOf v = some (PySem.W.keyToks b.2)) its bs := by
    have go : ∀ {l : List Value} {m : List (V × PyData)}, (∀ b ∈ m, b ∈ bs) → PySem.W.EachIs (fun u (b : V × PyData) => RelV b.1 u ∧ ∃ as, Reads s.heap u b.2 as) l m → PySem.W.EachIs (fun v (b : V × PyData) => (PySem.W.dataKind (PySem.W.sortingHeap (PySem.W.copyHeap s.heap its) (s.heap.objs.size + 1) its) (bs.map (·.2))).keyOf v = some (PySem.W.keyToks b.2)) l m := by
      intro l m hm h
      induction h with
      | nil => exact .nil
      | @cons u b l m h1 _ ih =>
        obtain ⟨_, as, ra⟩ := h1
        exact .cons (PySem.W.dataKind_some al (List.mem_map.mpr ⟨b, hm b List.mem_cons_self, rfl⟩) (PyProof.Rows.Reads.keeps keep ra)) (ih fun c hc => hm c (List.mem_cons_of_mem _ hc))
    exact go (fun _ h => h) e1
  have out := PySem.W.sortVals_each (κ := PySem.W.dataKind (PySem.W.sortingHeap (PySem.W.copyHeap s.heap its) (s.heap.objs.size + 1) its) (bs.map (·.2))) (rev := false) (fun b : V × PyData => PySem.W.keyToks b.2) (e1.mono fun u b h => h.1) key
  have rvs := each_vals out
  obtain ⟨n, hn⟩ := PyProof.Rows.sortedAll_at s.heap its (PySem.W.sortVals (PySem.W.dataKind (PySem.W.sortingHeap (PySem.W.copyHeap s.heap its) (s.heap.objs.size + 1) its) (bs.map (·.2))) false its its).toArray
  have fr : H (s.heap.objs.size + 1) = none := I.hok.fresh (Nat.le_succ _)
  refine ⟨.ref (s.heap.objs.size + 1), _, I.laid (t' := s.toks) (fun b o e => PyProof.Rows.sortedAll_old e) (Nat.le_succ _) (show ObjOk X.prog X.w _ _ _ (.lst _) from ⟨?_, _, n, rvs, hn⟩), rfl, q _ fr⟩
  rw [rvs.length, PySem.W.sortVals_length _ rfl]
  exact hL
def sortedDC (us : List U) (S : Sto) : R (List U) := match us with
  | [u] => match DL.listOf u S with
    | some xs => match toDs xs with
      | some ds => guard (sortOk ds) (.ok (sortD xs) S)
      | none => .bad
    | none => .bad
  | _ => .bad
theorem trip {w : Wd} : ∀ {us : List U} {xs : List V} {ds : List PyData}, VRs (KMof X) w us xs → toDs us = some ds → ∃ ts : List (U × V × PyData), ts.map (·.1) = us ∧ ts.map (·.2.1) = xs ∧ ts.map (·.2.2) = ds ∧ ∀ t ∈ ts, VR (KMof X) w t.1 t.2.1 ∧ toD t.1 = some t.2.2
  | _, _, _, .nil, h => by cases h; exact ⟨[], rfl, rfl, rfl, fun t ht => by cases ht⟩
  | _, _, _, .cons (u := u) (us := us) r rs, h => by
    unfold toDs at h
    split at h
    · rename_i d ds e1 e2
      cases h
      obtain ⟨ts, h1, h2, h3, h4⟩ := trip rs e2
      refine ⟨(u, _, d) :: ts, by rw [List.map_cons, h1], by rw [List.map_cons, h2], by rw [List.map_cons, h3], fun t ht => ?_⟩
      rcases List.mem_cons.mp ht with rfl | ht
      · exact ⟨r, e1⟩
      · exact h4 t ht
    · cases h
theorem vrs_of {w : Wd} : ∀ {ts : List (U × V × PyData)}, (∀ t ∈ ts, VR (KMof X) w t.1 t.2.1) → VRs (KMof X) w (ts.map (·.1)) (ts.map (·.2.1))
  | [], _ => .nil
  | t :: ts, h => .cons (h t List.mem_cons_self) (vrs_of fun u hu => h u (List.mem_cons_of_mem _ hu))
theorem cl_sortD (hu : X.A.units + 64 < cLine) : CallSimL X (.builtin "sorted") sortedDC := by
  refine ⟨_, cr_sortD hu, fun w us vs Q E s rs h => ?_⟩
  unfold sortedDC at h
  split at h
  · rename_i u
    cases rs with
    | cons r rs =>
      cases rs
      split at h
      · rename_i xs hl
        split at h
        · rename_i ds hd
          obtain ⟨hs, h⟩ := guard_post h
          obtain ⟨al, so, dp⟩ := sortOk_ok hs
          obtain ⟨a, ys, rfl, q, rx⟩ := listOf_ok s r hl
          obtain ⟨ts, h1, h2, h3, h4⟩ := trip rx hd
          have e3 : (ts.map (·.2)).map (·.2) = ds := by rw [List.map_map]; exact h3
          refine ⟨a, ts.map (·.2), rfl, by rw [List.map_map]; exact h2 ▸ q, fun b hb => ?_, by rw [e3]; exact al, by rw [e3]; exact so, by rw [e3]; exact dp, fun p hp => ?_⟩
          · obtain ⟨t, ht, rfl⟩ := List.mem_map.mp hb
            exact toD_ok (h4 t ht).1 (h4 t ht).2
          · have kU : ∀ t ∈ ts, PySem.W.keyToks (dOf t.1) = PySem.W.keyToks t.2.2 := fun t ht => by
              unfold dOf
              rw [(h4 t ht).2]
              rfl
            have m1 : (ts.mergeSort fun a b => leD a.1 b.1).map (·.1) = sortD xs := by
              have z := PySem.W.sort_maps (fun t : U × V × PyData => t.1) (r := fun a b => leD a.1 b.1) (s := leD) (l := ts) fun a _ b _ => rfl
              rw [h1] at z
              exact z
            have m2 : (ts.mergeSort fun a b => leD a.1 b.1).map (·.2) = (ts.map (·.2)).mergeSort (PySem.W.sortLe (PyProof.Rows.listOrd PyProof.Rows.itemOrd) false fun b => PySem.W.keyToks b.2) := by
              refine PySem.W.sort_maps (fun t : U × V × PyData => t.2) fun a ha b hb => ?_
              show (!PyProof.Rows.lexLt PyProof.Rows.itemOrd (PySem.W.keyToks (dOf b.1)) (PySem.W.keyToks (dOf a.1))) = (!PyProof.Rows.lexLt PyProof.Rows.itemOrd (PySem.W.keyToks b.2.2) (PySem.W.keyToks a.2.2))
              rw [kU a ha, kU b hb]
            have v := vrs_of (X := X) (w := w) (ts := ts.mergeSort fun a b => leD a.1 b.1) fun t ht => (h4 t ((List.mergeSort_perm _ _).mem_iff.mp ht)).1
            rw [m1] at v
            rw [← m2, List.map_map]
            exact h w p _ rfl (Stp.refl w) s v hp
        · exact h.elim
      · exact h.elim
  · exact h.elim
end
end DL
namespace DL
open PySem PySem.Spec PyProof.Rows L2
def Mk (m : Nat) : Prop := m = 7 ∨ m = 31 ∨ m = 127 ∨ m = 511 ∨ m = 2047
def metF (m : Nat) : Nat → Nat → Nat → Nat
  | 0, _, acc => acc
  | n + 1, x, acc => metF m n ((x * 5 + 1) % (m + 1)) (acc ||| 2 ^ x)
theorem lcgI_add (m : Nat) : ∀ (k a i : Nat), lcgI m i (a + k) = lcgI m (lcgI m i a) k
  | 0, a, i => rfl
  | k + 1, a, i => by
    show (lcgI m i (a + k) * 5 + 1) % (m + 1) = (lcgI m (lcgI m i a) k * 5 + 1) % (m + 1)
    rw [lcgI_add m k a i]
theorem metF_bit (m j : Nat) : ∀ (n x acc : Nat), (metF m n x acc).testBit j = true → acc.testBit j = true ∨ ∃ k, k < n ∧ lcgI m x k = j
  | 0, x, acc, h => .inl h
  | n + 1, x, acc, h => by
    rcases metF_bit m j n _ _ h with q | ⟨k, hk, e⟩
    · rw [Nat.testBit_or, Bool.or_eq_true] at q
      rcases q with q | q
      · exact .inl q
      · rw [Nat.testBit_two_pow] at q
        exact .inr ⟨0, Nat.succ_pos _, of_decide_eq_true q⟩
    · refine .inr ⟨k + 1, Nat.succ_lt_succ hk, ?_⟩
      rw [Nat.add_comm k 1, lcgI_add]
      exact e
def cycOk (m : Nat) : Bool := metF m (m + 1) 0 0 == 2 ^ (m + 1) - 1 && lcgI m 0 (m + 1) == 0
theorem cyc7 : cycOk 7 = true := by decide +kernel
theorem cyc31 : cycOk 31 = true := by decide +kernel
theorem cyc127 : cycOk 127 = true := by decide +kernel
theorem cyc511 : cycOk 511 = true := by decide +kernel
theorem cyc2047 : cycOk 2047 = true := by decide +kernel
theorem Mk.cyc {m : Nat} (h : Mk m) : cycOk m = true := by
  rcases h with rfl | rfl | rfl | rfl | rfl
  · exact cyc7
  · exact cyc31
  · exact cyc127
  · exact cyc511
  · exact cyc2047
theorem Mk.odd {m : Nat} (h : Mk m) : m % 2 = 1 := by rcases h with e | e | e | e | e <;> subst e <;> rfl
theorem Mk.le {m : Nat} (h : Mk m) : m ≤ 2047 := by rcases h with e | e | e | e | e <;> omega
theorem Mk.from0 {m j : Nat} (h : Mk m) (hj : j ≤ m) : ∃ k, k ≤ m ∧ lcgI m 0 k = j := by
  have c := h.cyc
  unfold cycOk at c
  rw [Bool.and_eq_true, beq_iff_eq, beq_iff_eq] at c
  have b : (metF m (m + 1) 0 0).testBit j = true := by
    rw [c.1, Nat.testBit_two_pow_sub_one]
    exact decide_eq_true (by omega)
  rcases metF_bit m j _ _ _ b with q | ⟨k, hk, e⟩
  · simp at q
  · exact ⟨k, by omega, e⟩
theorem Mk.all {m i j : Nat} (h : Mk m) (hi : i ≤ m) (hj : j ≤ m) : ∃ k, k ≤ m ∧ lcgI m i k = j := by
  have c := h.cyc
  unfold cycOk at c
  rw [Bool.and_eq_true, beq_iff_eq, beq_iff_eq] at c
  obtain ⟨a, ha, ea⟩ := h.from0 hi
  obtain ⟨b, hb, eb⟩ := h.from0 hj
  rcases Nat.lt_or_ge b a with q | q
  · refine ⟨m + 1 - a + b, by omega, ?_⟩
    rw [← ea, ← lcgI_add, show a + (m + 1 - a + b) = (m + 1) + b by omega, lcgI_add, c.2, eb]
  · refine ⟨b - a, by omega, ?_⟩
    rw [← ea, ← lcgI_add, show a + (b - a) = b by omega, eb]
theorem Mk.run {m : Nat} (hm : Mk m) (h : Int) {j : Nat} (hj : j ≤ m) : ∃ n, n ≤ m + 12 ∧ runI m (SetTable.bits h) n = j := by
  obtain ⟨k, hk, e⟩ := hm.all (runI_le m (SetTable.bits h) 12) hj
  exact ⟨12 + k, by omega, (runI_tail (bits_lt h) k).trans e⟩
theorem Mk.meets {m : Nat} (hm : Mk m) (h : Int) {j : Nat} (hj : j ≤ m) : ∃ k, k < 10 * SetTable.turns m ∧ way m h k = j := by
  obtain ⟨n, hn, e⟩ := hm.run h hj
  obtain ⟨k, hk, e2⟩ := run_nth m (SetTable.bits h) n
  refine ⟨k, by unfold SetTable.turns; omega, ?_⟩
  show (nth m (runAt m (SetTable.bits h % (m + 1)) (SetTable.bits h)) k).j = j
  rw [e2]
  exact e
theorem wayLe (m : Nat) (h : Int) (k : Nat) : way m h k ≤ m := by
  have hi : SetTable.bits h % (m + 1) ≤ m := Nat.le_of_lt_succ (Nat.mod_lt _ (Nat.succ_pos _))
  have r := runEnd_bd hi
  have q := nth_in (m := m) k (runAt m (SetTable.bits h % (m + 1)) (SetTable.bits h)) (by
    show SetTable.bits h % (m + 1) + (SetTable.runEnd m (SetTable.bits h % (m + 1)) - SetTable.bits h % (m + 1)) ≤ m
    omega)
  have : way m h k = (nth m (runAt m (SetTable.bits h % (m + 1)) (SetTable.bits h)) k).j := rfl
  omega
structure Tb (t : SetTable) (hs : List Int) : Prop where
  ris : Ris t.place.toList
  dm : t.dummies = #[]
  sz : t.place.toList.length = hs.length
  mok : Mk t.mask
  bd : ∀ x ∈ t.place.toList, x ≤ t.mask
  reach : ∀ (i : Nat) (h : Int) (j : Nat), hs[i]? = some h → t.place.toList[i]? = some j → ∃ k, way t.mask h k = j ∧ ∀ k', k' < k → way t.mask h k' ∈ t.place.toList
theorem Tb.first {t : SetTable} {hs : List Int} (T : Tb t hs) (hl : hs.length ≤ t.mask) (h : Int) : ∃ K, K < 10 * SetTable.turns t.mask ∧ way t.mask h K ∉ t.place.toList ∧ ∀ k, k < K → way t.mask h k ∈ t.place.toList := by
  obtain ⟨j, hj, hn⟩ := st_missing t.place.toList (t.mask + 1) (by rw [T.sz]; omega)
  obtain ⟨k, hk, e⟩ := T.mok.meets h (Nat.le_of_lt_succ hj)
  obtain ⟨K, h1, h2, h3⟩ := st_least (p := fun k => way t.mask h k ∉ t.place.toList) k (by rw [e]; exact hn)
  exact ⟨K, by omega, h2, fun k' hk' => Classical.not_not.mp (h3 k' hk')⟩
theorem Tb.put {t : SetTable} {hs : List Int} (T : Tb t hs) {h : Int} {K j p : Nat} (ej : way t.mask h K = j) (ep : SetTable.below t.place j = p) (hK : j ∉ t.place.toList) (hb : ∀ k, k < K → way t.mask h k ∈ t.place.toList) :
    p ≤ hs.length ∧ Tb (t.put j).1 (hs.take p ++ h :: hs.drop p) ∧ (t.put j).1.fill = hs.length + 1 := by
  have hjm : j ≤ t.mask := ej ▸ wayLe _ _ _
  obtain ⟨c1, _, _⟩ := below_cut T.ris j
  rw [ep, ← Array.length_toList] at c1
  have hph : p ≤ hs.length := by rw [← T.sz]; exact c1
  have hnp : t.place[SetTable.below t.place j]? ≠ some j := fun e => hK (List.mem_of_getElem? (by rw [Array.getElem?_toList]; exact e))
  have hpp := put_place t j
  rw [ep] at hpp
  have hln : (t.put j).1.place.toList.length = hs.length + 1 := by rw [hpp, len_ins _ c1, T.sz]
  refine ⟨hph, ⟨ris_insert T.ris hnp, put_dm T.dm j, by rw [hln, len_ins _ hph], T.mok, fun x hx => ?_, fun i h' j' h1 h2 => ?_⟩, ?_⟩
  · rw [hpp] at hx
    rcases mem_ins.1 hx with z | z
    · rw [z]; exact hjm
    · exact T.bd x z
  · have old : ∀ i0 : Nat, hs[i0]? = some h' → t.place.toList[i0]? = some j' → ∃ k, way t.mask h' k = j' ∧ ∀ k', k' < k → way t.mask h' k' ∈ (t.put j).1.place.toList := fun i0 a b => by
      obtain ⟨k, e, z⟩ := T.reach i0 h' j' a b
      exact ⟨k, e, fun k' hk' => by rw [hpp]; exact mem_ins.2 (.inr (z k' hk'))⟩
    rw [tins_get hs hph] at h1
    rw [hpp, tins_get _ c1] at h2
    show ∃ k, way t.mask h' k = j' ∧ ∀ k', k' < k → way t.mask h' k' ∈ (t.put j).1.place.toList
    by_cases q1 : i < p
    · rw [if_pos q1] at h1 h2
      exact old i h1 h2
    · rw [if_neg q1] at h1 h2
      by_cases q2 : i = p
      · rw [if_pos q2] at h1 h2
        cases h1
        cases h2
        exact ⟨K, ej, fun k' hk' => by rw [hpp]; exact mem_ins.2 (.inr (hb k' hk'))⟩
      · rw [if_neg q2] at h1 h2
        exact old _ h1 h2
  · show (t.put j).1.place.size + (t.put j).1.dummies.size = hs.length + 1
    rw [put_dm T.dm j, ← Array.length_toList, hln]
    rfl
theorem Mk.free {m : Nat} (hm : Mk m) (owner : Array (Option Nat)) (h : Int) {j : Nat} (hj : j ≤ m) (hf : oAt owner j = none) :
    ∃ K, SetTable.layClean.free m owner (SetTable.turns m) (SetTable.bits h % (m + 1)) (SetTable.bits h) = some (way m h K) ∧ oAt owner (way m h K) = none ∧ ∀ k, k < K → oAt owner (way m h k) ≠ none := by
  obtain ⟨n, hn, e⟩ := hm.run h hj
  have hw : way m h (off m (SetTable.bits h % (m + 1)) (SetTable.bits h) n) = j := by
    show (nth m (runAt m (SetTable.bits h % (m + 1)) (SetTable.bits h)) _).j = j
    rw [nth_off, itL_run]
    exact e
  obtain ⟨K, k1, k2, k3⟩ := st_least (p := fun k => oAt owner (way m h k) = none) _ (by rw [hw]; exact hf)
  refine ⟨K, free_spec m owner (SetTable.turns m) n _ _ K (by unfold SetTable.turns; omega) k1 (fun k hk => ?_) ?_, k2, k3⟩
  · cases z : oAt owner (nth m (runAt m (SetTable.bits h % (m + 1)) (SetTable.bits h)) k).j with
    | none => exact absurd z (k3 k hk)
    | some _ => rfl
  · exact Option.isNone_iff_eq_none.mpr k2
end DL
set_option maxHeartbeats 4000000
namespace DL
open PySem PySem.Spec PyProof.Rows L2
abbrev NI (h : Heap) (k : NestedKey) (a : Addr) : Prop := NestedIs h k (.ref a) ∧ k.depth ≤ 8
theorem NI.keep {h h' : Heap} {k : NestedKey} {a : Addr} (x : NI h k a) (hk : ∀ b o, h.get? b = some o → h'.get? b = some o) : NI h' k a := ⟨NestedIs.at (fun b o _ _ e _ => hk b o e) _ _ x.1, x.2⟩
theorem NI.same {h h' : Heap} {k : NestedKey} {a b : Addr} {o : Obj} {es : Array (Int × Value)} {ep : Nat} {t : SetTable} (x : NI h k b) (ho : h.get? a = some o) (hd : o.data = .set es ep t) (hs : Heap.SameBut a h h') : NI h' k b :=
  ⟨NestedIs.at (fun c oc vs n hc hv => (hs.2 c fun e => by
    subst e
    rw [ho] at hc
    cases hc
    rw [hd] at hv
    cases hv).trans hc) _ _ x.1, x.2⟩
section
variable {P : Program} {w : World}
def Bare (P : Program) (w : World) (n : Nat) (s : Shared) (v : Value) : Prop := ∀ (A : Around) (E : Value → Shared → Prop) (Q : Bool → Shared → Prop), Q false s → wpAny (model P w) A (ofAClassStatement n v) Q E s
theorem Bare.val {n : Nat} {s : Shared} {v : Value} (e : ofAClassStatement n v = pure false) : Bare P w n s v := fun A E Q h => by rw [e]; exact wpAny_pure h
theorem Bare.tup {n : Nat} {s : Shared} {a : Addr} {o : Obj} {vs : Array Value} {m : Nat} (ho : s.heap.get? a = some o) (hc : o.cls = .type "tuple") (hd : o.data = .seq vs m) (hq : ∀ v ∈ vs.toList, Bare P w n s v) : Bare P w (n + 1) s (.ref a) := fun A E Q h => by
  have hT : s.TypeIs (.ref a) "tuple" := ⟨o, ho, hc⟩
  unfold ofAClassStatement
  refine wpAny_bind (wpAny_typeOf hT ?_)
  dsimp only
  have e : (("tuple" : String) == "tuple") = true := by decide
  simp only [e, if_true, Bool.not_true, Bool.false_eq_true, if_false]
  try refine wpAny_bind (wpAny_pure ?_)
  try simp only [Bool.not_true, Bool.false_eq_true, if_false]
  show wpAny _ _ (seqItems? (.ref a) >>= _) _ _ s
  refine wpAny_bind (wpAny_seqItems ho hd ?_)
  dsimp only
  refine wpAny_bind ?_
  show wpAny _ _ (forIn vs _ _) _ _ s
  rw [← Array.forIn_toList]
  refine wpAny_forIn_list _ (fun rest r s' => r.1 = none ∧ s' = s ∧ ∀ v ∈ rest, Bare P w n s v) _ ?_ ?_ _ _ ⟨rfl, rfl, hq⟩
  · rintro v rest r s' ⟨hr, rfl, hall⟩
    refine wpAny_bind (hall v List.mem_cons_self _ _ _ ?_)
    simp only [Bool.false_eq_true, if_false]
    exact wpAny_pure ⟨rfl, rfl, fun u hu' => hall u (List.mem_cons_of_mem _ hu')⟩
  · rintro ⟨r1, r2⟩ s' ⟨hr, rfl, _⟩
    simp only at hr
    subst hr
    exact wpAny_pure h
mutual
theorem bare_key : ∀ (k : NestedKey) (v : Value) (n : Nat) (s : Shared), NestedIs s.heap k v → k.depth ≤ n → Bare P w n s v
  | .none, _, n, s, x, _ => by cases x; exact .val (by cases n <;> rfl)
  | .num i, _, n, s, x, _ => by cases x <;> exact .val (by cases n <;> rfl)
  | .text y, _, n, s, x, _ => by cases x; exact .val (by cases n <;> rfl)
  | .tup ks, _, n, s, x, hn => by
    cases x with
    | tup hg hc hd hk =>
      simp only [NestedKey.depth] at hn
      cases n with
      | zero => omega
      | succ n => exact .tup hg hc hd (bare_keys ks _ n s hk (by omega))
theorem bare_keys : ∀ (ks : List NestedKey) (vs : List Value) (n : Nat) (s : Shared), NestedAll s.heap ks vs → NestedKey.depthAll ks ≤ n → ∀ v ∈ vs, Bare P w n s v
  | [], _, n, s, x, _, v, hv => by cases x; cases hv
  | k :: ks, _, n, s, x, hn, v, hv => by
    cases x with
    | cons x1 x2 =>
      simp only [NestedKey.depthAll] at hn
      rcases List.mem_cons.mp hv with e | hv
      · rw [e]; exact bare_key k _ n s x1 (by omega)
      · exact bare_keys ks _ n s x2 (by omega) v hv
end
def HbT (P : Program) (w : World) (n : Nat) (s : Shared) (v : Value) : Prop := ∀ (A : Around) (E : Value → Shared → Prop) (Q : Bool → Shared → Prop), (∀ b, Q b s) → wpAny (model P w) A (hashByValue n v) Q E s
theorem HbT.val {n : Nat} {s : Shared} {v : Value} {b : Bool} (e : hashByValue n v = pure b) : HbT P w n s v := fun A E Q h => by rw [e]; exact wpAny_pure (h b)
theorem HbT.tup {n : Nat} {s : Shared} {a : Addr} {o : Obj} {vs : Array Value} {m : Nat} (ho : s.heap.get? a = some o) (hc : o.cls = .type "tuple") (hd : o.data = .seq vs m) (hq : ∀ v ∈ vs.toList, HbT P w n s v) : HbT P w (n + 1) s (.ref a) := fun A E Q h => by
  have hT : s.TypeIs (.ref a) "tuple" := ⟨o, ho, hc⟩
  unfold hashByValue
  refine wpAny_bind (wpAny_specialOf hT F.slot_tuple_hash.lookup ?_)
  show wpAny _ _ (seqItems? (.ref a) >>= _) _ _ s
  refine wpAny_bind (wpAny_seqItems ho hd ?_)
  refine wpAny_bind ?_
  show wpAny _ _ (forIn vs _ _) _ _ s
  rw [← Array.forIn_toList]
  refine wpAny_forIn_list _ (fun rest r s' => r.1 = none ∧ s' = s ∧ ∀ v ∈ rest, HbT P w n s v) _ ?_ ?_ _ _ ⟨rfl, rfl, hq⟩
  · rintro v rest r s' ⟨hr, rfl, hall⟩
    refine wpAny_bind (hall v List.mem_cons_self _ _ _ fun b => ?_)
    cases b with
    | true =>
      simp only [Bool.not_true, Bool.false_eq_true, if_false]
      exact wpAny_pure ⟨rfl, rfl, fun u hu' => hall u (List.mem_cons_of_mem _ hu')⟩
    | false =>
      simp only [Bool.not_false, if_true]
      exact wpAny_pure (wpAny_pure (h false))
  · rintro ⟨r1, r2⟩ s' ⟨hr, rfl, _⟩
    simp only at hr
    subst hr
    exact wpAny_pure (h true)
mutual
theorem hb_key : ∀ (k : NestedKey) (v : Value) (n : Nat) (s : Shared), NestedIs s.heap k v → HbT P w n s v
  | .none, _, n, s, x => by cases x; exact .val (b := true) (by cases n <;> rfl)
  | .num i, _, n, s, x => by cases x <;> exact .val (b := true) (by cases n <;> rfl)
  | .text y, _, n, s, x => by cases x; exact .val (b := false) (by cases n <;> rfl)
  | .tup ks, _, n, s, x => by
    cases x with
    | tup hg hc hd hk =>
      cases n with
      | zero => exact .val (b := false) rfl
      | succ n => exact .tup hg hc hd (hb_keys ks _ n s hk)
theorem hb_keys : ∀ (ks : List NestedKey) (vs : List Value) (n : Nat) (s : Shared), NestedAll s.heap ks vs → ∀ v ∈ vs, HbT P w n s v
  | [], _, n, s, x, v, hv => by cases x; cases hv
  | k :: ks, _, n, s, x, v, hv => by
    cases x with
    | cons x1 x2 =>
      rcases List.mem_cons.mp hv with e | hv
      · rw [e]; exact hb_key k _ n s x1
      · exact hb_keys ks _ n s x2 v hv
end
end
section
variable {P : Program} {w : World} {A : Around} {E : Value → Shared → Prop} {s : Shared}
abbrev rowsN (w : World) (L : List (Addr × NestedKey)) : List (Int × Value) := L.map fun p => (p.2.hash w, Value.ref p.1)
structure SN (w : World) (h : Heap) (a : Addr) (L : List (Addr × NestedKey)) (es : Array (Int × Value)) (ep : Nat) (t : SetTable) : Prop where
  ob : ∃ o, h.get? a = some o ∧ o.ExactSet ∧ o.data = .set es ep t
  rows : es.toList = rowsN w L
  tab : Tb t (L.map fun p => p.2.hash w)
  nd : (L.map (·.2)).Nodup
  key : ∀ p ∈ L, NI h p.2 p.1
  led : w.params.followText "set-order" = true ∨ t.led = true
  room : L.length * 5 < t.mask * 3
  few : L.length ≤ 1000
variable {a : Addr} {L : List (Addr × NestedKey)} {es : Array (Int × Value)} {ep : Nat} {t : SetTable}
theorem rows_size {L : List (Addr × NestedKey)} {es : Array (Int × Value)} (r : es.toList = rowsN w L) : es.size = L.length := by
  have h := congrArg List.length r
  simpa using h
theorem tb_fits {hs : List Int} {n : Nat} (T : Tb t hs) (hn : n = hs.length) (hm : hs.length ≤ t.mask) : t.fits n = true := by
  unfold SetTable.fits SetTable.fill
  have h1 := T.sz
  rw [Array.length_toList] at h1
  rw [T.dm, Bool.and_eq_true, beq_iff_eq, decide_eq_true_eq]
  show t.place.size = n ∧ t.place.size + 0 ≤ t.mask
  omega
theorem SN.fits (R : SN w s.heap a L es ep t) : t.fits es.size = true :=
  tb_fits R.tab (by rw [rows_size R.rows, List.length_map]) (by rw [List.length_map]; have := R.room; omega)
theorem SN.entry (R : SN w s.heap a L es ep t) {i : Nat} {p : Addr × NestedKey} (h : L[i]? = some p) : es[i]? = some (p.2.hash w, Value.ref p.1) := by
  rw [← Array.getElem?_toList, R.rows, List.getElem?_map, h]
  rfl
theorem SN.gw (R : SN w s.heap a L es ep t) : ¬ t.gaveWay = true := by
  unfold SetTable.gaveWay
  rw [R.tab.mok.odd]
  decide
end
end DL
set_option maxHeartbeats 4000000
namespace DL
open PySem PySem.Spec PyProof.Rows L2
section
variable {P : Program} {w : World} {A : Around} {E : Value → Shared → Prop} {s : Shared}
variable {a : Addr} {L : List (Addr × NestedKey)} {es : Array (Int × Value)} {ep : Nat} {t : SetTable}
end
end DL
set_option maxHeartbeats 4000000
namespace DL
open PySem PySem.Spec PyProof.Rows L2
structure Gt (ks : List (Addr × NestedKey)) (i : Nat) (L : List (Addr × NestedKey)) : Prop where
  sub : ∀ p ∈ L, p ∈ ks.take i
  all : ∀ p ∈ ks.take i, p.2 ∈ L.map (·.2)
  len : L.length ≤ i
theorem Gt.step {ks L L' : List (Addr × NestedKey)} {i : Nat} {x : Addr × NestedKey} (g : Gt ks i L) (h : ks[i]? = some x) (c1 : x.2 ∈ L.map (·.2) → L' = L) (c2 : x.2 ∉ L.map (·.2) → L'.Perm (x :: L)) : Gt ks (i + 1) L' := by
  have e : ks.take (i + 1) = ks.take i ++ [x] := by rw [List.take_succ, h]; rfl
  by_cases hm : x.2 ∈ L.map (·.2)
  · rw [c1 hm]
    refine ⟨fun p hp => by rw [e]; exact List.mem_append_left _ (g.sub p hp), fun p hp => ?_, Nat.le_succ_of_le g.len⟩
    rw [e] at hp
    rcases List.mem_append.mp hp with z | z
    · exact g.all p z
    · rw [List.mem_singleton.mp z]; exact hm
  · have pm := c2 hm
    refine ⟨fun p hp => ?_, fun p hp => ?_, by rw [pm.length_eq]; exact Nat.succ_le_succ g.len⟩
    · rw [e]
      rcases List.mem_cons.mp (pm.mem_iff.mp hp) with z | z
      · rw [z]; exact List.mem_append_right _ (List.mem_singleton.mpr rfl)
      · exact List.mem_append_left _ (g.sub p z)
    · rw [(pm.map (·.2)).mem_iff, List.map_cons]
      rw [e] at hp
      rcases List.mem_append.mp hp with z | z
      · exact List.mem_cons_of_mem _ (g.all p z)
      · rw [List.mem_singleton.mp z]; exact List.mem_cons_self
section
variable {P : Program} {w : World} {A : Around} {E : Value → Shared → Prop} {s : Shared}
theorem SN.keep {h h' : Heap} {a : Addr} {L : List (Addr × NestedKey)} {es : Array (Int × Value)} {ep : Nat} {t : SetTable} (R : SN w h a L es ep t) (ha : ∀ o, h.get? a = some o → h'.get? a = some o) (hk : ∀ p ∈ L, NI h' p.2 p.1) : SN w h' a L es ep t := by
  obtain ⟨o, ho, r⟩ := R.ob
  exact ⟨⟨o, ha o ho, r⟩, R.rows, R.tab, R.nd, hk, R.led, R.room, R.few⟩
end
end DL
set_option maxHeartbeats 4000000
namespace DL
open PySem PySem.Spec PyProof.Rows L2
mutual
def keyD : PyData → Option NestedKey
  | .none => some .none
  | .bool b => some (.num (if b = true then 1 else 0))
  | .int i => some (.num i)
  | .str x => some (.text x)
  | .tuple xs => (keyDs xs).map .tup
  | .list _ => none
  | .dict _ => none
def keyDs : List PyData → Option (List NestedKey)
  | [] => some []
  | d :: ds => match keyD d, keyDs ds with
    | some k, some ks => some (k :: ks)
    | _, _ => none
end
mutual
theorem reads_key {h : Heap} : ∀ (d : PyData) {v : Value} {as : List Addr} {k : NestedKey}, Reads h v d as → keyD d = some k → NestedIs h k v
  | .none, _, _, _, r, e => by unfold keyD at e; cases e; cases r; exact .none
  | .bool b, _, _, _, r, e => by unfold keyD at e; cases e; cases r; exact .bool rfl
  | .int i, _, _, _, r, e => by unfold keyD at e; cases e; cases r; exact .int _ _
  | .str x, _, _, _, r, e => by unfold keyD at e; cases e; cases r; exact .text _ _
  | .tuple xs, _, _, _, r, e => by
    unfold keyD at e
    cases q : keyDs xs with
    | none => rw [q] at e; cases e
    | some ks =>
      rw [q] at e
      cases e
      cases r with
      | tuple h1 h2 h3 h4 => exact .tup h1 h2 h3 (reads_keys xs h4 q)
  | .list _, _, _, _, _, e => by unfold keyD at e; cases e
  | .dict _, _, _, _, _, e => by unfold keyD at e; cases e
theorem reads_keys {h : Heap} : ∀ (ds : List PyData) {vs : List Value} {as : List Addr} {ks : List NestedKey}, ReadsAll h vs ds as → keyDs ds = some ks → NestedAll h ks vs
  | [], _, _, _, r, e => by unfold keyDs at e; cases e; cases r; exact .nil
  | d :: ds, _, _, _, r, e => by
    unfold keyDs at e
    split at e
    · rename_i k ks e1 e2
      cases e
      cases r with
      | cons r1 r2 => exact .cons (reads_key d r1 e1) (reads_keys ds r2 e2)
    · cases e
end
structure SN0 (w : World) (h : Heap) (a : Addr) (L : List (Addr × NestedKey)) : Prop where
  ex : ∃ (es : Array (Int × Value)) (ep : Nat) (t : SetTable), (∃ o, h.get? a = some o ∧ o.ExactSet ∧ o.data = .set es ep t) ∧ es.toList = rowsN w L ∧ Tb t (L.map fun p => p.2.hash w) ∧ (L.map (·.2)).Nodup ∧
    (w.params.followText "set-order" = true ∨ t.led = true) ∧ L.length * 5 < t.mask * 3 ∧ L.length ≤ 1000
theorem SN.s0 {w : World} {h : Heap} {a : Addr} {L : List (Addr × NestedKey)} {es : Array (Int × Value)} {ep : Nat} {t : SetTable} (R : SN w h a L es ep t) : SN0 w h a L := ⟨es, ep, t, R.ob, R.rows, R.tab, R.nd, R.led, R.room, R.few⟩
theorem SN0.keep {w : World} {h h' : Heap} {a : Addr} {L : List (Addr × NestedKey)} (R : SN0 w h a L) (k : ∀ o, h.get? a = some o → h'.get? a = some o) : SN0 w h' a L := by
  obtain ⟨es, ep, t, ⟨o, ho, r⟩, q⟩ := R.ex
  exact ⟨es, ep, t, ⟨o, k o ho, r⟩, q⟩
section
variable {X : Cx}
theorem each_map {α β γ : Type} {R : α → β → Prop} {S : α → γ → Prop} {g : β → γ} (h : ∀ a b, R a b → S a (g b)) : ∀ {l : List α} {m : List β}, PySem.W.EachIs R l m → PySem.W.EachIs S l (m.map g)
  | _, _, .nil => .nil
  | _, _, .cons r t => .cons (h _ _ r) (each_map h t)
end
end DL
set_option maxHeartbeats 1000000
namespace DL
open PySem PySem.Spec L2
mutual
theorem eqv_eq : ∀ (x y : PyData) {k : NestedKey}, PySem.W.alike x y = true → PyData.eqv x y = true → keyD x = some k → x = y
  | .none, y, _, h, _, _ => by cases y <;> first | rfl | (simp [PySem.W.alike] at h)
  | .bool a, y, _, h, e, _ => by cases y <;> first | (simp [PySem.W.alike] at h; done) | (simp [PyData.eqv] at e; rw [e])
  | .int a, y, _, h, e, _ => by cases y <;> first | (simp [PySem.W.alike] at h; done) | (simp [PyData.eqv] at e; rw [e])
  | .str a, y, _, h, e, _ => by cases y <;> first | (simp [PySem.W.alike] at h; done) | (simp [PyData.eqv] at e; rw [e])
  | .tuple xs, y, k, h, e, q => by
    cases y with
    | tuple ys =>
      unfold keyD at q
      cases q2 : keyDs xs with
      | none => rw [q2] at q; cases q
      | some ks => rw [eqv_eqs xs ys (by simpa [PySem.W.alike] using h) (by simpa [PyData.eqv] using e) q2]
    | _ => simp [PySem.W.alike] at h
  | .list _, _, _, _, _, q => by unfold keyD at q; cases q
  | .dict _, _, _, _, _, q => by unfold keyD at q; cases q
theorem eqv_eqs : ∀ (xs ys : List PyData) {ks : List NestedKey}, PySem.W.alikeAll xs ys = true → PyData.eqvAll xs ys = true → keyDs xs = some ks → xs = ys
  | [], [], _, _, _, _ => rfl
  | [], _ :: _, _, _, e, _ => by simp [PyData.eqvAll] at e
  | _ :: _, [], _, _, e, _ => by simp [PyData.eqvAll] at e
  | x :: xs, y :: ys, _, h, e, q => by
    rw [PySem.W.eqv_all_cons, Bool.and_eq_true] at e
    unfold keyDs at q
    split at q
    · rename_i k ks q1 q2
      rw [eqv_eq x y (PySem.W.alike_all_cons h).1 e.1 q1, eqv_eqs xs ys (PySem.W.alike_all_cons h).2 e.2 q2]
    · cases q
end
mutual
theorem toD_inj : ∀ (u u' : U) {d : PyData} {k : NestedKey}, toD u = some d → toD u' = some d → keyD d = some k → u = u'
  | .non, u', d, _, h1, h2, _ => by
    unfold toD at h1; cases h1
    cases u' <;> (unfold toD at h2) <;> first | rfl | (cases h2) | (simp at h2)
  | .bl b, u', d, _, h1, h2, _ => by
    unfold toD at h1; cases h1
    cases u' <;> (unfold toD at h2) <;> first | (cases h2; rfl) | (cases h2) | (simp at h2)
  | .int b, u', d, _, h1, h2, _ => by
    unfold toD at h1; cases h1
    cases u' <;> (unfold toD at h2) <;> first | (cases h2; rfl) | (cases h2) | (simp at h2)
  | .str b, u', d, _, h1, h2, _ => by
    unfold toD at h1; cases h1
    cases u' <;> (unfold toD at h2) <;> first | (cases h2; rfl) | (cases h2) | (simp at h2)
  | .tup us, u', d, k, h1, h2, q => by
    unfold toD at h1
    obtain ⟨ds, e1, rfl⟩ := Option.map_eq_some_iff.mp h1
    cases u' with
    | tup us' =>
      unfold toD at h2
      obtain ⟨ds', e2, e3⟩ := Option.map_eq_some_iff.mp h2
      cases e3
      unfold keyD at q
      obtain ⟨ks, q1, _⟩ := Option.map_eq_some_iff.mp q
      rw [toDs_inj us us' e1 e2 q1]
    | lst us' => unfold toD at h2; obtain ⟨ds', e2, e3⟩ := Option.map_eq_some_iff.mp h2; cases e3
    | frz us' => unfold toD at h2; obtain ⟨ds', e2, e3⟩ := Option.map_eq_some_iff.mp h2; cases e3
    | _ => unfold toD at h2; cases h2
  | .lst us, u', d, k, h1, h2, q => by
    unfold toD at h1
    obtain ⟨ds, e1, rfl⟩ := Option.map_eq_some_iff.mp h1
    unfold keyD at q; cases q
  | .frz us, u', d, k, h1, h2, q => by
    unfold toD at h1
    obtain ⟨ds, e1, rfl⟩ := Option.map_eq_some_iff.mp h1
    unfold keyD at q; cases q
  | .dic _ _, _, _, _, h1, _, _ => by unfold toD at h1; cases h1
  | .loc _, _, _, _, h1, _, _ => by unfold toD at h1; cases h1
  | .ty _, _, _, _, h1, _, _ => by unfold toD at h1; cases h1
  | .exc _ _ _, _, _, _, h1, _, _ => by unfold toD at h1; cases h1
  | .cl _, _, _, _, h1, _, _ => by unfold toD at h1; cases h1
theorem toDs_inj : ∀ (us us' : List U) {ds : List PyData} {ks : List NestedKey}, toDs us = some ds → toDs us' = some ds → keyDs ds = some ks → us = us'
  | [], us', ds, _, h1, h2, _ => by
    unfold toDs at h1; cases h1
    cases us' with
    | nil => rfl
    | cons u us => unfold toDs at h2; split at h2 <;> cases h2
  | u :: us, us', ds, ks, h1, h2, q => by
    unfold toDs at h1
    split at h1
    · rename_i d ds1 e1 e2
      cases h1
      cases us' with
      | nil => unfold toDs at h2; cases h2
      | cons u' us' =>
        unfold toDs at h2
        split at h2
        · rename_i d' ds' f1 f2
          cases h2
          unfold keyDs at q
          split at q
          · rename_i k ks q1 q2
            rw [toD_inj u u' e1 f1 q1, toDs_inj us us' e2 f2 q2]
          · cases q
        · cases h2
    · cases h1
end
mutual
theorem key_data : ∀ (x y : PyData) {k : NestedKey}, PySem.W.alike x y = true → keyD x = some k → keyD y = some k → x = y
  | .none, y, _, h, _, _ => by cases y <;> first | rfl | (simp [PySem.W.alike] at h)
  | .bool a, y, _, h, e, q => by
    cases y <;> first | (simp [PySem.W.alike] at h; done) | skip
    rename_i b
    unfold keyD at e q
    cases e
    cases a <;> cases b <;> first | rfl | (simp at q)
  | .int a, y, _, h, e, q => by
    cases y <;> first | (simp [PySem.W.alike] at h; done) | skip
    unfold keyD at e q
    cases e
    cases q
    rfl
  | .str a, y, _, h, e, q => by
    cases y <;> first | (simp [PySem.W.alike] at h; done) | skip
    unfold keyD at e q
    cases e
    cases q
    rfl
  | .tuple xs, y, k, h, e, q => by
    cases y with
    | tuple ys =>
      unfold keyD at e q
      obtain ⟨ks, e1, rfl⟩ := Option.map_eq_some_iff.mp e
      obtain ⟨ks', e2, e3⟩ := Option.map_eq_some_iff.mp q
      cases e3
      rw [keys_data xs ys (by simpa [PySem.W.alike] using h) e1 e2]
    | _ => simp [PySem.W.alike] at h
  | .list _, _, _, _, e, _ => by unfold keyD at e; cases e
  | .dict _, _, _, _, e, _ => by unfold keyD at e; cases e
theorem keys_data : ∀ (xs ys : List PyData) {ks : List NestedKey}, PySem.W.alikeAll xs ys = true → keyDs xs = some ks → keyDs ys = some ks → xs = ys
  | [], [], _, _, _, _ => rfl
  | [], y :: ys, _, _, e, q => by
    unfold keyDs at e q
    cases e
    split at q <;> cases q
  | x :: xs, [], _, _, e, q => by
    unfold keyDs at e q
    cases q
    split at e <;> cases e
  | x :: xs, y :: ys, _, h, e, q => by
    unfold keyDs at e q
    split at e
    · rename_i k ks q1 q2
      cases e
      split at q
      · rename_i k' ks' p1 p2
        cases q
        rw [key_data x y (PySem.W.alike_all_cons h).1 q1 p1, keys_data xs ys (PySem.W.alike_all_cons h).2 q2 p2]
      · cases q
    · cases e
end
end DL
set_option maxHeartbeats 1000000
namespace DL
open PySem PySem.Spec L2
def alt {α : Type} (a b : R α) : R α := match a with
  | .bad => b
  | .ok x S => .ok x S
  | .exc x S => .exc x S
theorem pst_alt {α : Type} {a b : R α} {P : α → Sto → Prop} {E : Exc → Sto → Prop} (h : Pst (alt a b) P E) : Pst a P E ∨ Pst b P E := by
  cases a with
  | bad => exact .inr h
  | ok x S => exact .inl h
  | exc x S => exact .inl h
section
variable {X : Cx} {Wx : WX}
theorem CallSimL.alt {f : Value} {g1 g2 : List U → Sto → R (List U)} (h1 : CallSimL X f g1) (h2 : CallSimL X f g2) : CallSimL X f (fun us S => DL.alt (g1 us S) (g2 us S)) := by
  obtain ⟨r1, c1, k1⟩ := h1
  obtain ⟨r2, c2, k2⟩ := h2
  refine ⟨_, c1.or c2, fun w us vs Q E s rs h => ?_⟩
  rcases pst_alt h with q | q
  · exact .inl (k1 w us vs Q E s rs q)
  · exact .inr (k2 w us vs Q E s rs q)
def sortedA (us : List U) (S : Sto) : R (List U) := alt (sortedC us S) (sortedDC us S)
theorem cl_sortedA (hc : X.calm = true) (hu : X.A.units + 64 < cLine) : CallSimL X (.builtin "sorted") sortedA := (cl_sorted hc).alt (cl_sortD hu)
end
end DL
set_option maxHeartbeats 1000000
namespace DL
open PySem PySem.Spec L2 PyProof.Rows HT
section
variable {X : Cx} {Wx : WX}
theorem noX_alt {a b : R U} (h1 : noX a) (h2 : noX b) : noX (alt a b) := by
  cases a with
  | bad => exact h2
  | ok x S => trivial
  | exc x S => exact h1
theorem CallSim.alt {f : Value} {g1 g2 : List U → Sto → R U} (h1 : CallSim X f g1) (h2 : CallSim X f g2) : CallSim X f (fun us S => DL.alt (g1 us S) (g2 us S)) := by
  obtain ⟨r1, c1, n1, k1⟩ := h1
  obtain ⟨r2, c2, n2, k2⟩ := h2
  refine ⟨_, c1.or c2, fun us S => noX_alt (n1 us S) (n2 us S), fun w us vs Q s rs h => ?_⟩
  rcases pst_alt h with q | q
  · exact .inl (k1 w us vs Q s rs q)
  · exact .inr (k2 w us vs Q s rs q)
theorem MtSim.alt {id : String} {g1 g2 : U → List U → Sto → R U} (h1 : MtSim X id g1) (h2 : MtSim X id g2) : MtSim X id (fun u us S => DL.alt (g1 u us S) (g2 u us S)) := by
  obtain ⟨r1, c1, n1, k1⟩ := h1
  obtain ⟨r2, c2, n2, k2⟩ := h2
  refine ⟨_, MtR.or c1 c2, fun u us S => noX_alt (n1 u us S) (n2 u us S), fun w u us v vs Q s r rs h => ?_⟩
  rcases pst_alt h with q | q
  · exact .inl (k1 w u us v vs Q s r rs q)
  · exact .inr (k2 w u us v vs Q s r rs q)
theorem OpSim.alt {F : Value → Value → Sem Value} {g1 g2 : U → U → Sto → R U} (h1 : OpSim X F g1) (h2 : OpSim X F g2) : OpSim X F (fun x y S => DL.alt (g1 x y S) (g2 x y S)) := by
  obtain ⟨r1, c1, k1⟩ := h1
  obtain ⟨r2, c2, k2⟩ := h2
  refine ⟨_, c1.or c2, fun w x y v v' Q s rx ry h => ?_⟩
  rcases pst_alt h with q | q
  · exact .inl (k1 w x y v v' Q s rx ry q)
  · exact .inr (k2 w x y v v' Q s rx ry q)
end
end DL
set_option maxHeartbeats 1000000
namespace DL
open PySem PySem.Spec L2 PyProof.Rows HT
section
variable {prog : Program} {w : World} {A : Around} {E : Value → Shared → Prop} {s : Shared}
end
section
variable {X : Cx} {Wx : WX}
theorem vrs_rev {w : Wd} : ∀ {us : List U} {vs : List V}, VRs (KMof X) w us vs → VRs (KMof X) w us.reverse vs.reverse
  | _, _, .nil => .nil
  | _, _, .cons r rs => by rw [List.reverse_cons, List.reverse_cons]; exact (vrs_rev rs).snoc r
end
end DL
set_option maxHeartbeats 1000000
namespace DL
open PySem PySem.Spec L2 PyProof.Rows
def kU : Key → U
  | .inl i => .int i
  | .inr x => .str x
def kD : Key → PyData
  | .inl i => .int i
  | .inr x => .str x
section
variable {X : Cx} {Wx : WX}
abbrev Ent := Key × V × PyData
def Ent.kv (e : Ent) : Key × V := (e.1, e.2.1)
def Ent.d (e : Ent) : PyData := .tuple [kD e.1, e.2.2]
mutual
theorem dp_up {K : PySem.W.Frag} {H H' : Hp} (up : ∀ b o, H b = some o → H' b = some o) : ∀ {v : V} {d : PyData}, Dp K H v d → Dp K H' v d
  | _, _, .non => .non
  | _, _, .bl b => .bl b
  | _, _, .int i => .int i
  | _, _, .str x => .str x
  | _, _, .lst h r => .lst (h.imp (fun z => z.imp (up _ _) fun ⟨o, y⟩ => ⟨o, up _ _ y⟩) id) (dps_up up r)
  | _, _, .tup h r => .tup (h.imp (fun z => z.imp (up _ _) fun ⟨o, y⟩ => ⟨o, up _ _ y⟩) id) (dps_up up r)
theorem dps_up {K : PySem.W.Frag} {H H' : Hp} (up : ∀ b o, H b = some o → H' b = some o) : ∀ {vs : List V} {ds : List PyData}, DpAll K H vs ds → DpAll K H' vs ds
  | _, _, .nil => .nil
  | _, _, .cons h r => .cons (dp_up up h) (dps_up up r)
end
end
end DL
set_option maxHeartbeats 1000000
namespace DL
open PySem PySem.Spec L2 PyProof.Rows
section
variable {X : Cx} {Wx : WX}
structure Row where
  k : Key
  u : U
  v : V
  d : PyData
def Row.e (r : Row) : Ent := (r.k, r.v, r.d)
def Row.it (r : Row) : U := .tup [kU r.k, r.u]
end
end DL
set_option maxHeartbeats 1000000
namespace DL
open PySem PySem.Spec L2
section
variable {X : Cx} {Wx : WX}
end
end DL
set_option maxHeartbeats 1000000
namespace ETU
open PySem
open PySem.Sem (wp)
open PySem.AutoSeq1 (wpAny_loadPart')
theorem meets_newT (l : Addr) (items : Array Value) (n : Nat) (dct : Option Addr) (sl : Array (Option Value)) :
    Meets (Builtin.«enumerate.__new__» ⟨[.type "enumerate", .ref l], []⟩) (fun _ R s => s.heap.get? l = some { cls := .type "tuple", dict := dct, data := .seq items n, slots := sl } ∧
      R (.ok (.ret (.ref (s.heap.push { cls := .type "tuple_iterator", data := .fields #[.ref l, .int 0 0] }).objs.size)))
        { s with heap := (s.heap.push { cls := .type "tuple_iterator", data := .fields #[.ref l, .int 0 0] }).push { cls := .type "enumerate", data := .fields #[.none, .bool false, .ref s.heap.objs.size, rawInt 0, .none, .none] } }) :=
  .of_wp fun prog w A R s h => by
    obtain ⟨hp, g, d, tk, os⟩ := s; obtain ⟨hl, h⟩ := h
    have hsub := sub_enumerate
    have hL : Heap.IsTuple (Shared.heap ⟨hp, g, d, tk, os⟩) l items := ⟨_, hl, rfl, n, rfl⟩
    wp_walk using wpAny_loadPart' hl
    refine wpAny_stack_any fun st => wpAny_pure ?_
    split
    · rename_i c _ _ _ _ _
      cases (c == Value.type "enumerate")
      · wp_walk using wpAny_loadPart' hl, wpAny_pyIter_tuple hL
        exact ⟨_, rfl, h⟩
      · wp_walk using wpAny_loadPart' hl, wpAny_pyIter_tuple hL
        exact ⟨_, rfl, h⟩
    · wp_walk using wpAny_loadPart' hl, wpAny_pyIter_tuple hL
      exact ⟨_, rfl, h⟩
section
variable {prog : Program} {w : World} {A : Around} {E : Value → Shared → Prop} {s : Shared}
theorem call_enumerate_tuple {l : Addr} {items : Array Value} {Q : Value → Shared → Prop} (hL : s.heap.IsTuple l items)
    (h : ∀ h', IsEnum h' (s.heap.objs.size + 1) s.heap.objs.size 0 .none → h'.IsTupleIter s.heap.objs.size l 0 → h'.objs.size = s.heap.objs.size + 2 →
      (∀ b o, s.heap.get? b = some o → h'.get? b = some o) → Q (.ref (s.heap.objs.size + 1)) { s with heap := h' }) :
    wpAny (model prog w) A (call (.type "enumerate") [.ref l]) Q E s := by
  obtain ⟨⟨c, dct, dt, sl⟩, hl, hc, n, hd⟩ := hL
  replace hc : c = .type "tuple" := hc
  replace hd : dt = .seq items n := hd
  subst hc hd
  refine callType_new F.called_enumerate (by decide) (F.typeCall_enumerate_1 _) (F.newCall_enumerate_1 _) (fun obj => F.args_object_init_2 obj _) F.entry_enumerate_new
    (meets_newT l items n dct sl) ⟨hl, ?_⟩
  have hz : (s.heap.push { cls := .type "tuple_iterator", data := .fields #[.ref l, .int 0 0] }).objs.size = s.heap.objs.size + 1 := Heap.size_push ..
  show _ ∧ _
  rw [hz]
  have he : IsEnum ((s.heap.push { cls := .type "tuple_iterator", data := .fields #[.ref l, .int 0 0] }).push
      { cls := .type "enumerate", data := .fields #[.none, .bool false, .ref s.heap.objs.size, rawInt 0, .none, .none] }) (s.heap.objs.size + 1) s.heap.objs.size 0 .none := by
    have := Heap.get?_push_size (s.heap.push { cls := .type "tuple_iterator", data := .fields #[.ref l, .int 0 0] })
      (o := { cls := .type "enumerate", data := .fields #[.none, .bool false, .ref s.heap.objs.size, rawInt 0, .none, .none] }) rfl
    rw [hz] at this; exact this
  refine ⟨⟨_, he, rfl⟩, h _ he ⟨_, Heap.get?_push_of_some _ (Heap.get?_push_size _ rfl), rfl, rfl⟩ (by rw [Heap.size_push, hz]) fun b o x => Heap.get?_push_of_some _ (Heap.get?_push_of_some _ x)⟩
end
theorem drawsT {prog : Program} {w : World} {A : Around} (hh : A.handled = none) (it l : Addr) (hne : l ≠ it) (items : Array Value) :
    Draws prog w A it [it, l] items.size (fun i v => items[i]? = some v) (fun i h => h.IsTupleIter it l i ∧ h.IsTuple l items) where
  live := fun _ _ st => let ⟨o, ho, _⟩ := st.1; ⟨o, ho⟩
  frame := fun _ _ _ st hk => ⟨st.1.at fun o e => hk it (by simp) o e, st.2.at fun o e => hk l (by simp) o e⟩
  item := fun i s Q E hi st hQ => by
    refine RZ.nextOf_tuple_item st.1 st.2 (x := items[i]) (by simp [hi]) fun h' hit' hs' => ?_
    exact hQ _ h' s.toks (by simp [hi]) ⟨hit', st.2.at fun o e => hs'.extBut l o hne e⟩ hs'
  done := fun s Q E st hE => RZ.nextOf_tuple_end hh st.1 st.2 (by simp) hE
end ETU
namespace DL
open PySem PySem.Spec L2 PyProof.Rows
def IteT (K : PySem.W.Frag) (a : Addr) : It :=
  ⟨fun i H => ∃ (xs : List V) (x : V), SqT K H a xs ∧ xs[i]? = some x, fun i H v H' => ∃ T x, v = .ref T ∧ H T = none ∧ H' = upd H T (.tup [.int (i : Nat), x]) ∧ ∀ xs, SqT K H a xs → xs[i]? = some x, fun i H => ∃ xs : List V, SqT K H a xs ∧ xs.length ≤ i⟩
theorem turn_enumT {P : Program} {w : World} {K : PySem.W.Frag} {elts : List Expr} {kk : Nat} {tpos : Pos} (a e it : Addr) :
    Turn P w K (.Tuple elts kk tpos) (IteT K a) [e, it] e (fun i h => (∃ old, IsEnum h e it ((i : Nat) : Int) old) ∧ h.IsTupleIter it a i ∧ e ≠ it ∧ a ≠ it ∧ a ≠ e) where
  mem := by simp
  obj := fun i h st b hb => by
    obtain ⟨⟨old, he⟩, ⟨o, ho, hc, hd⟩, _⟩ := st
    have e' : b = e ∨ b = it := by simpa using hb
    rcases e' with z | z
    · rw [z]; exact ⟨_, he, fun v q => nomatch q⟩
    · rw [z]; exact ⟨o, ho, fun v q => by rw [hd] at q; cases q⟩
  keep := fun i h h' st k => let ⟨⟨old, he⟩, hi, hne⟩ := st; ⟨⟨old, k e (by simp) _ he⟩, hi.at fun o q => k it (by simp) o q, hne⟩
  item := by
    intro X hP hw hK hc i pins s σ H E I hf st hg
    subst hP hw hK
    obtain ⟨⟨old, he⟩, hit, hne, ha1, ha2⟩ := st
    obtain ⟨xs, x, hq, hx⟩ := hg
    obtain ⟨its, rv, p, hz⟩ := I.tuple hq
    obtain ⟨u, hu, ru⟩ := rv.get hx
    have hel : e < s.heap.objs.size := Heap.lt_size he
    have hil : it < s.heap.objs.size := by obtain ⟨_, q, _⟩ := hit; exact Heap.lt_size q
    have hlt : i < its.toArray.size := by
      have := (List.getElem?_eq_some_iff.mp hu).1
      simpa using this
    refine wpAny_pyNext_enum_itemD (ETU.drawsT (A := X.A.in1) (I.ok.hd hc) it a ha1 its.toArray) he ⟨hit, p⟩ hlt hne (by simp; exact ⟨hne, fun z => ha2 z.symm⟩) fun y h' tk hy ho hst hT hsz hk => ?_
    have ey : y = u := by
      have : its[i]? = some y := by simpa using hy
      rw [hu] at this
      exact (Option.some.inj this).symm
    subst ey
    refine ⟨_, rfl, wpAny_letOwnedTupleGo_enum (s := { s with heap := h', toks := tk + 1 }) ho fun h'' he' sb => ?_⟩
    have hT2 : h''.get? s.heap.objs.size = some { cls := .type "tuple", data := .seq #[.int i tk, y] } := (sb.2 _ (Nat.ne_of_gt hel)).trans hT
    have new : ObjOk X.prog X.w (upd H s.heap.objs.size (.tup [.int (i : Nat), x])) h'' s.heap.objs.size (.tup [.int (i : Nat), x]) :=
      ⟨by show 2 ≤ sizeLine; decide, [.int i tk, y], .cons ⟨_, rfl⟩ (.cons ru .nil), ⟨_, hT2, rfl, _, rfl⟩⟩
    have I1 : Inv X pins σ (upd H s.heap.objs.size (.tup [.int (i : Nat), x])) { s with heap := h'', toks := tk + 1 } :=
      I.turnedNew (ch := [e, it]) (fun b ob hb q => (sb.2 b (fun z => hb (by simp [z]))).trans (hk b ob (fun z => hb (by simp [z])) (fun z => hb (by simp [z])) q)) hf (Nat.le_refl _) new
    refine ⟨.ref s.heap.objs.size, _, I1, rfl, ⟨_, x, rfl, I.hok.fresh (Nat.le_refl _), rfl, fun ys hy => by rw [I.tuple_inj hy hq]; exact hx⟩, ⟨⟨y, ?_⟩, hst.1.at fun o q => (sb.2 it (Ne.symm hne)).trans q, hne, ha1, ha2⟩, fun b hb => ?_⟩
    · have e1 : ((i + 1 : Nat) : Int) = (i : Int) + 1 := by omega
      rw [e1]; exact he'
    · have hb' : b < s.heap.objs.size := by
        have e' : b = e ∨ b = it := by simpa using hb
        rcases e' with z | z
        · rw [z]; exact hel
        · rw [z]; exact hil
      rw [upd_ne (Nat.ne_of_lt hb')]
      exact (hf b hb).1
  done := by
    intro X hP hw hK hc i pins s σ H E I hf st hg
    subst hP hw hK
    obtain ⟨⟨old, he⟩, hit, hne, ha1, ha2⟩ := st
    obtain ⟨xs, hq, hx⟩ := hg
    obtain ⟨its, rv, p, hz⟩ := I.tuple hq
    obtain ⟨f0, f1, f2, f3, f4, f5⟩ := hf it (by simp)
    have hl := rv.length
    have hT : s.TypeIs (.ref e) "enumerate" := ⟨_, he, rfl⟩
    unfold pyNext
    refine wpAny_bind (wpAny_attempt (wpAny_callSpecial?_slot (name := Str.ofString "__next__") hT F.slot_enumerate_next
      (wpAny_call_entry F.slot_enumerate_next hT F.entry_enumerate_next ?_ (F.args_enumerate_next_1 _))))
    show wpAny _ _ (field (.ref e) 2 >>= _) _ _ _
    refine wpAny_bind (wpAny_field he rfl (x := .ref it) rfl ?_)
    refine wpAny_bind (RZ.nextOf_tuple_end (I.ok.hd hc) hit p (by simp; omega) fun h' x he' hx' => ?_)
    obtain ⟨o, ho, hc⟩ := hx'
    refine wpAny_bind (wpAny_isInstance (T := "StopIteration") (b := true) ⟨o, ho, hc⟩ isSubtype_stop ?_)
    exact wpAny_pure ⟨rfl, I.turned (t' := s.toks) (fun b o hb q => he' b o hb q) f0 f1 f3 f4 f5⟩
  self := fun A i s Q E st h => let ⟨⟨_, he⟩, _⟩ := st; wpAny_pyIter_enum he h
def iEnumA (K : PySem.W.Frag) (ta : TA) : TI := fun σ H R => ta σ H fun vs H1 => ∃ a xs, vs = [.ref a] ∧ ((SqL K H1 a xs ∧ R (Ite K a) H1) ∨ (SqT K H1 a xs ∧ R (IteT K a) H1))
theorem pi_enumA {X : Cx} {e : Expr} {ta : TA} {p pos tpos : Pos} {elts : List Expr} {kk : Nat} (hg : Gl X "enumerate") (hm : X.mg "enumerate" = none) (ha : PA X [e] ta) (hs : starEach [e] X.env = [(false, eval e X.env)] := by rfl) :
    PI X (.Tuple elts kk tpos) (.Call (.Name "enumerate" p) [e] [] pos) (iEnumA X.K ta) := by
  refine ⟨fun pins s σ H R I h => ?_⟩
  refine Call_ (ld_blt I hg hm boot_enumerate (PyProof.Rows.callWith_type1 (thn (ha.run pos pins s σ H _ I h) fun us s1 ⟨vs, H1, I1, r1, q1⟩ => ?_) hs rfl))
  obtain ⟨a, xs, ex, hq⟩ := q1
  subst ex
  cases r1 with
  | cons r rr =>
    cases rr
    cases r
    rcases hq with ⟨hq, q⟩ | ⟨hq, q⟩
    · obtain ⟨its, rv, p', hz⟩ := I1.list hq
      refine call_enumerate_list p'.isList fun h' he hit hsz hk => wpAny_pyIter_enum he ?_
      have I2 : Inv X pins σ H1 { s1 with heap := h' } := I1.kept (t' := s1.toks) hk
      refine ⟨s1.heap.objs.size + 1, [s1.heap.objs.size + 1, s1.heap.objs.size], _, _, H1, rfl, I2, turn_enum a (s1.heap.objs.size + 1) s1.heap.objs.size, ⟨⟨.none, he⟩, hit, Nat.succ_ne_self _⟩, fun b hb => ?_, q⟩
      have e' : b = s1.heap.objs.size + 1 ∨ b = s1.heap.objs.size := by simpa using hb
      have hle : s1.heap.objs.size ≤ b := by
        rcases e' with z | z
        · rw [z]; exact Nat.le_add_right _ _
        · rw [z]; exact Nat.le_refl _
      exact I1.fpOk hle (I1.hok.fresh hle)
    · obtain ⟨its, rv, p', hz⟩ := I1.tuple hq
      have hal : a < s1.heap.objs.size := by obtain ⟨_, q, _⟩ := p'; exact Heap.lt_size q
      refine ETU.call_enumerate_tuple p' fun h' he hit hsz hk => wpAny_pyIter_enum he ?_
      have I2 : Inv X pins σ H1 { s1 with heap := h' } := I1.kept (t' := s1.toks) hk
      refine ⟨s1.heap.objs.size + 1, [s1.heap.objs.size + 1, s1.heap.objs.size], _, _, H1, rfl, I2, turn_enumT a (s1.heap.objs.size + 1) s1.heap.objs.size, ⟨⟨.none, he⟩, hit, Nat.succ_ne_self _, Nat.ne_of_lt hal, Nat.ne_of_lt (Nat.lt_succ_of_lt hal)⟩, fun b hb => ?_, q⟩
      have e' : b = s1.heap.objs.size + 1 ∨ b = s1.heap.objs.size := by simpa using hb
      have hle : s1.heap.objs.size ≤ b := by
        rcases e' with z | z
        · rw [z]; exact Nat.le_add_right _ _
        · rw [z]; exact Nat.le_refl _
      exact I1.fpOk hle (I1.hok.fresh hle)
section
variable {X : Cx} {Wx : WX}
def aEnumA (fa : FA) : FA := fun d S => (fa d S).bind fun us S1 => match us with
  | [u] => match lstV u with
    | some us => .ok (enumU 0 us) S1
    | none => match tupV u with
      | some us => .ok (enumU 0 us) S1
      | none => .bad
  | _ => .bad
theorem it_enumT {K : KM} {w : Wd} {a : Addr} {us : List U} (hk : ∀ w', Ext w w' → ∃ xs, SqT K w'.H a xs ∧ VRs K w' us xs) : ItSim K w (IteT K a) (enumU 0 us) := fun w' i x s => by
  obtain ⟨xs, hq, rs⟩ := hk w' x
  refine ⟨fun u hu => ?_, fun h => ⟨xs, hq, by rw [← rs.length]; rw [enumU_len] at h; exact h⟩⟩
  obtain ⟨y, hy, rfl⟩ := enumU_get hu
  obtain ⟨z, hz, rz⟩ := rs.get hy
  refine ⟨⟨xs, z, hq, hz⟩, fun v H' q => ?_⟩
  obtain ⟨T, z', rfl, hT, rfl, hz'⟩ := q
  have e := hz' xs hq
  rw [hz] at e
  cases e
  have st := Stp.new s (o := .tup [.int (i : Nat), z]) hT
  refine ⟨w'.new T _, rfl, rfl, st, s.new hT, ?_⟩
  rw [Nat.zero_add]
  exact .tup (TqT.of upd_same) (.cons (.int _) (.cons (rz.ext st.x s) .nil))
theorem tupV_sq {K : KM} {w : Wd} {u : U} {v : V} {us : List U} (r : VR K w u v) (h : tupV u = some us) : ∃ a, v = .ref a ∧ ∀ w', Ext w w' → SR K w → ∃ xs, SqT K w'.H a xs ∧ VRs K w' us xs := by
  cases r with
  | @tup a xs _ hq rs => cases h; exact ⟨a, rfl, fun w' x s => ⟨xs, (x.sqT s hq).sq, rs.ext x s⟩⟩
  | _ => cases h
theorem si_enumA {a : Expr} {fa : FA} {p pos tpos : Pos} {elts : List Expr} {kk : Nat} (hg : Gl X "enumerate") (hm : X.mg "enumerate" = none) (ha : SimA X Wx [a] fa) (hs : starEach [a] X.env = [(false, eval a X.env)] := by rfl) : SimI X Wx (.Tuple elts kk tpos) (.Call (.Name "enumerate" p) [a] [] pos) (aEnumA fa) := by
  obtain ⟨t, p, ha⟩ := ha.out
  refine ⟨_, pi_enumA hg hm p hs, fun w d σ Q s e h0 => ?_⟩
  refine ha w d σ _ s e ((Pst.of_bind h0).mono (fun us S1 h1 w1 vs eS st s1 rs => ?_) fun _ _ q => q)
  split at h1
  · split at h1
    · rename_i us hu
      cases rs with
      | cons r rs =>
        cases rs
        obtain ⟨a, rfl, hk⟩ := lstV_ok r hu
        obtain ⟨xs, hq, _⟩ := hk w1 (Ext.refl w1) s1
        exact ⟨a, xs, rfl, .inl ⟨hq, h1 w1 _ eS st s1 (it_enum fun w' x => hk w' x s1)⟩⟩
    · split at h1
      · rename_i us hu
        cases rs with
        | cons r rs =>
          cases rs
          obtain ⟨a, rfl, hk⟩ := tupV_sq r hu
          obtain ⟨xs, hq, _⟩ := hk w1 (Ext.refl w1) s1
          exact ⟨a, xs, rfl, .inr ⟨hq, h1 w1 _ eS st s1 (it_enumT fun w' x => hk w' x s1)⟩⟩
      · exact h1.elim
  · exact h1.elim
end
end DL
set_option maxHeartbeats 2000000
namespace DL
open PySem PySem.Spec PyProof.Rows L2
section
variable {P : Program} {w : World} {A : Around} {E : Value → Shared → Prop} {s : Shared}
end
end DL
set_option maxHeartbeats 1000000
namespace DL
open PySem PySem.Spec PyProof.Rows L2
section
variable {X : Cx} {Wx : WX}
end
end DL
set_option maxHeartbeats 1000000
namespace DL
open PySem PySem.Spec PyProof.Rows L2
section
variable {X : Cx} {Wx : WX}
theorem VRs.rep {K : KM} {w : Wd} {us : List U} {xs : List V} (h : VRs K w us xs) : ∀ k : Nat, VRs K w (List.replicate k us).flatten (List.replicate k xs).flatten
  | 0 => .nil
  | k + 1 => by
    rw [List.replicate_succ, List.replicate_succ, List.flatten_cons, List.flatten_cons]
    exact h.append (VRs.rep h k)
end
end DL
set_option maxHeartbeats 1000000
namespace DL
open PySem PySem.Spec PyProof.Rows L2
section
variable {X : Cx} {Wx : WX}
end
end DL
set_option maxHeartbeats 1000000
namespace DL
open PySem PySem.Spec PyProof.Rows L2
section
variable {X : Cx} {Wx : WX}
end
end DL
set_option maxHeartbeats 1000000
namespace DL
open PySem PySem.Spec PyProof.Rows L2
mutual
theorem keyN_D : ∀ {u : U} {k : NestedKey}, keyN u = some k → ∃ d, toD u = some d ∧ keyD d = some k
  | .non, _, h => ⟨.none, rfl, by unfold keyN at h; unfold keyD; exact h⟩
  | .bl b, _, h => ⟨.bool b, rfl, by unfold keyN at h; unfold keyD; exact h⟩
  | .int i, _, h => ⟨.int i, rfl, by unfold keyN at h; unfold keyD; exact h⟩
  | .str x, _, h => ⟨.str x, rfl, by unfold keyN at h; unfold keyD; exact h⟩
  | .tup us, k, h => by
    unfold keyN at h
    cases q : keyNs us with
    | none => rw [q] at h; cases h
    | some ks =>
      rw [q] at h
      cases h
      obtain ⟨ds, e1, e2⟩ := keyNs_D q
      exact ⟨.tuple ds, by unfold toD; rw [e1]; rfl, by unfold keyD; rw [e2]; rfl⟩
  | .lst _, _, h => by unfold keyN at h; cases h
  | .frz _, _, h => by unfold keyN at h; cases h
  | .dic _ _, _, h => by unfold keyN at h; cases h
  | .loc _, _, h => by unfold keyN at h; cases h
  | .ty _, _, h => by unfold keyN at h; cases h
  | .exc _ _ _, _, h => by unfold keyN at h; cases h
  | .cl _, _, h => by unfold keyN at h; cases h
theorem keyNs_D : ∀ {us : List U} {ks : List NestedKey}, keyNs us = some ks → ∃ ds, toDs us = some ds ∧ keyDs ds = some ks
  | [], _, h => ⟨[], rfl, by unfold keyNs at h; unfold keyDs; exact h⟩
  | u :: us, _, h => by
    unfold keyNs at h
    split at h
    · rename_i k ks e1 e2
      cases h
      obtain ⟨d, h1, h2⟩ := keyN_D e1
      obtain ⟨ds, h3, h4⟩ := keyNs_D e2
      exact ⟨d :: ds, by unfold toDs; rw [h1, h3], by unfold keyDs; rw [h2, h4]⟩
    · cases h
end
def KAt (X : Cx) (H : Hp) (a : Addr) (k : NestedKey) : Prop := ∃ d, Dp X.K H (V.ref a) d ∧ keyD d = some k ∧ k.depth ≤ 8
section
variable {X : Cx} {Wx : WX}
theorem KAt.ni {pins : List (Addr × Obj)} {σ : L2.St} {H : Hp} {s : Shared} {a : Addr} {k : NestedKey} (I : Inv X pins σ H s) (h : KAt X H a k) : NI s.heap k a := by
  obtain ⟨d, hd, hk, h8⟩ := h
  obtain ⟨as, r⟩ := Dp.reads I d (V.ref a) (.ref a) hd rfl
  exact ⟨reads_key d r hk, h8⟩
def KDict (X : Cx) (H : Hp) (a : Addr) (L : List (NestedKey × Addr × V)) : Prop := H a = some (KdO X.prog X.w a L) ∧ ∀ x ∈ L, KAt X H x.2.1 x.1
def valL (L : List (NestedKey × Addr × V)) (k : NestedKey) : Option V := (L.find? fun x => decide (x.1 = k)).map (·.2.2)
inductive LRel : List (NestedKey × Addr × V) → List (NestedKey × Addr × Value) → Prop
  | nil : LRel [] []
  | cons {k : NestedKey} {a : Addr} {v : V} {u : Value} {L xs} : RelV v u → LRel L xs → LRel ((k, a, v) :: L) ((k, a, u) :: xs)
theorem lrel_of : ∀ {L : List (NestedKey × Addr × V)} {xs : List (NestedKey × Addr × Value)}, L.map (fun x => (x.1, x.2.1)) = xs.map (fun x => (x.1, x.2.1)) → Vals (L.map (·.2.2)) (xs.map (·.2.2)) → LRel L xs
  | [], [], _, _ => .nil
  | [], _ :: _, h, _ => by cases h
  | _ :: _, [], h, _ => by cases h
  | (k, a, v) :: L, (k', a', u) :: xs, h, r => by
    rw [List.map_cons, List.map_cons] at h r
    obtain ⟨h1, h2⟩ := List.cons.inj h
    have e1 : k = k' := congrArg Prod.fst h1
    have e2 : a = a' := congrArg Prod.snd h1
    subst e1 e2
    cases r with
    | cons r1 r2 => exact .cons r1 (lrel_of h2 r2)
theorem LRel.length {L : List (NestedKey × Addr × V)} {xs : List (NestedKey × Addr × Value)} (h : LRel L xs) : L.length = xs.length := by
  induction h with
  | nil => rfl
  | cons _ _ ih => rw [List.length_cons, List.length_cons, ih]
theorem LRel.at {L : List (NestedKey × Addr × V)} {xs : List (NestedKey × Addr × Value)} (h : LRel L xs) (k : NestedKey) : (valL L k = none ∧ atKey xs k = none) ∨ ∃ v p, valL L k = some v ∧ atKey xs k = some p ∧ RelV v p.2 := by
  induction h with
  | nil => exact .inl ⟨rfl, rfl⟩
  | @cons k' a v u L xs r _ ih =>
    by_cases e : k' = k
    · exact .inr ⟨v, (a, u), by simp [valL, e], by simp [atKey, e], r⟩
    · rcases ih with ⟨h1, h2⟩ | ⟨v', p, h1, h2, h3⟩
      · exact .inl ⟨by simpa [valL, e] using h1, by simpa [atKey, e] using h2⟩
      · exact .inr ⟨v', p, by simpa [valL, e] using h1, by simpa [atKey, e] using h2, h3⟩
def putL (L : List (NestedKey × Addr × V)) (k : NestedKey) (a : Addr) (v : V) : List (NestedKey × Addr × V) :=
  if (valL L k).isSome then L.map (fun x => if x.1 = k then (x.1, x.2.1, v) else x) else L ++ [(k, a, v)]
theorem LRel.map_put {L : List (NestedKey × Addr × V)} {xs : List (NestedKey × Addr × Value)} {k : NestedKey} {v : V} {u : Value} (r : RelV v u) (h : LRel L xs) : LRel (L.map (fun x => if x.1 = k then (x.1, x.2.1, v) else x)) (xs.map (putAt k u)) := by
  induction h with
  | nil => exact .nil
  | @cons k' a v' u' L xs r' _ ih =>
    rw [List.map_cons, List.map_cons]
    unfold putAt
    by_cases e : k' = k
    · simp only [e, if_true]
      exact .cons r ih
    · simp only [e, if_false]
      exact .cons r' ih
theorem LRel.snoc {L : List (NestedKey × Addr × V)} {xs : List (NestedKey × Addr × Value)} {k : NestedKey} {a : Addr} {v : V} {u : Value} (r : RelV v u) (h : LRel L xs) : LRel (L ++ [(k, a, v)]) (xs ++ [(k, a, u)]) := by
  induction h with
  | nil => exact .cons r .nil
  | cons r' _ ih => exact .cons r' ih
theorem LRel.put {L : List (NestedKey × Addr × V)} {xs : List (NestedKey × Addr × Value)} {k : NestedKey} {a : Addr} {v : V} {u : Value} (r : RelV v u) (h : LRel L xs) : LRel (putL L k a v) (storedH xs k a u) := by
  unfold putL storedH
  rcases h.at k with ⟨h1, h2⟩ | ⟨v', p, h1, h2, _⟩
  · rw [h1, h2]; exact h.snoc r
  · rw [h1, h2]; exact h.map_put r
def dropL (L : List (NestedKey × Addr × V)) (k : NestedKey) : List (NestedKey × Addr × V) := L.filter fun x => decide (x.1 ≠ k)
theorem LRel.drop {L : List (NestedKey × Addr × V)} {xs : List (NestedKey × Addr × Value)} (k : NestedKey) (h : LRel L xs) : LRel (dropL L k) (withoutH xs k) := by
  unfold dropL withoutH
  induction h with
  | nil => exact .nil
  | @cons k' a v' u' L xs r' _ ih =>
    by_cases e : k' = k
    · simpa [List.filter_cons, e] using ih
    · simp only [List.filter_cons, e, ne_eq, not_false_eq_true, decide_true, if_true]
      exact .cons r' ih
theorem KDict.get {pins : List (Addr × Obj)} {σ : L2.St} {H : Hp} {s : Shared} {a : Addr} {L : List (NestedKey × Addr × V)} (I : Inv X pins σ H s) (h : KDict X H a L) :
    (a == sysModules) = false ∧ L.length ≤ sizeLine ∧ ∃ xs, s.heap.DictOfH (nestedKind X.prog X.w) a xs ∧ LRel L xs := by
  obtain ⟨⟨h1, h2, o, es, ep, xs, e1, e2, e3, e4, e5, e6, e7⟩, _⟩ := I.hok a _ h.1
  have r := lrel_of e6 e7
  refine ⟨h1, h2, xs, ⟨o, es, ep, e1, e2, e3, e4, fun x hx => ?_, e5⟩, r⟩
  have hm : (x.1, x.2.1) ∈ L.map (fun x => (x.1, x.2.1)) := by rw [e6]; exact List.mem_map.mpr ⟨x, hx, rfl⟩
  obtain ⟨y, hy, ey⟩ := List.mem_map.mp hm
  have k := KAt.ni I (h.2 y hy)
  have z1 : y.1 = x.1 := congrArg Prod.fst ey
  have z2 : y.2.1 = x.2.1 := congrArg Prod.snd ey
  rw [z1, z2] at k
  exact k
end
end DL
set_option maxHeartbeats 1000000
namespace DL
open PySem PySem.Spec PyProof.Rows L2
section
variable {X : Cx} {Wx : WX}
section
variable {name : Str} {id : String} {r : V → List V → Hp → VK → Prop} {o e : Expr} {es : List Expr} {to : TE} {t : TA} {apos cpos : Pos}
end
end
end DL
set_option maxHeartbeats 1000000
namespace DL
open PySem PySem.Spec PyProof.Rows L2
section
variable {X : Cx} {Wx : WX}
end
end DL
set_option maxHeartbeats 4000000
namespace DL
open PySem PySem.Spec PyProof.Rows L2
section
variable {X : Cx} {Wx : WX}
end
end DL
namespace DL
open PySem PySem.Spec PyProof.Rows L2
section
variable {X : Cx} {Wx : WX}
end
end DL
set_option maxHeartbeats 1000000
namespace DL
open PySem PySem.Spec PyProof.Rows L2
section
variable {K : KM} {w : Wd}
end
section
variable {X : Cx} {Wx : WX}
section
variable {tg iter kx vx : Expr} {pos : Pos} {ifs : List Expr} {scope : Scope} {own : List (Str × Nat)} {fi : FA} {is vs : List Nat} {g : U → En → Option En} {ft : FT} {fk fv : FE}
end
theorem VRs.reverse {K : KM} {w : Wd} : ∀ {us : List U} {vs : List V}, VRs K w us vs → VRs K w us.reverse vs.reverse
  | _, _, .nil => .nil
  | _, _, .cons r t => by rw [List.reverse_cons, List.reverse_cons]; exact (VRs.reverse t).snoc r
end
end DL
set_option maxHeartbeats 1000000
namespace DL
open PySem PySem.Spec PyProof.Rows L2
section
variable {X : Cx} {Wx : WX} {tg iter : Expr} {body : List Stmt} {pos : Pos}
end
end DL
set_option maxHeartbeats 1000000
namespace DL
open PySem PySem.Spec PyProof.Rows L2 RZ
abbrev FG := En → Sto → R (List U × (Sto → Prop))
open Classical in
section
variable {X : Cx} {Wx : WX}
section
variable {tg iter elt : Expr} {pos : Pos} {ifs : List Expr} {scope : Scope} {own : List (Str × Nat)} {fi : FG} {is vs : List Nat} {g : U → En → Option En} {ft : FT} {fe : FE}
end
end
end DL
set_option maxHeartbeats 1000000
namespace DL
open PySem PySem.Spec PyProof.Rows L2
section
variable {X : Cx} {Wx : WX} {pos : Pos}
end
end DL
set_option maxHeartbeats 1000000
namespace DL
open PySem PySem.Spec PyProof.Rows L2
section
variable {X : Cx} {Wx : WX} {pos : Pos}
def aLRg (fe : FE) : FA := fun d S => (fe d S).bind fun u S1 => match u with
  | .int n => guard (decide (-(2 ^ 62) ≤ n) && decide (n ≤ 16777216)) (.ok (rngU 0 1 n.toNat) S1)
  | _ => .bad
theorem rng_vr {K : KM} {w : Wd} (n : Int) : VRs K w (rngU 0 1 n.toNat) (rgV 0 n) := by
  have e1 : rngU 0 1 n.toNat = ((List.range n.toNat).map fun (i : Nat) => ((i : Nat) : Int)).map U.int := by
    unfold rngU
    rw [List.map_map]
    refine List.map_congr_left fun i _ => ?_
    show U.int (0 + (i : Int) * 1) = U.int (i : Int)
    rw [Int.zero_add, Int.mul_one]
  have e2 : rgV 0 n = ((List.range n.toNat).map fun (i : Nat) => ((i : Nat) : Int)).map V.int := by
    unfold rgV
    rw [List.map_map, Int.sub_zero]
    refine List.map_congr_left fun i _ => ?_
    show V.int (0 + (i : Int)) = V.int (i : Int)
    rw [Int.zero_add]
  rw [e1, e2]
  exact ints_vr _
theorem sl_listRg {a : Expr} {fa : FE} {p p2 pos2 : Pos} (hc : X.calm = true) (hg : Gl X "list") (hm : X.mg "list" = none) (hg2 : Gl X "range") (hm2 : X.mg "range" = none) (ha : SimE X Wx a fa)
    (na : starEach [a] X.env = (false, eval a X.env) :: starEach [] X.env := by rfl)
    (nb : starEach [Expr.Call (.Name "range" p2) [a] [] pos2] X.env = (false, eval (Expr.Call (.Name "range" p2) [a] [] pos2) X.env) :: starEach [] X.env := by rfl) :
    SimL X Wx (.Call (.Name "list" p) [.Call (.Name "range" p2) [a] [] pos2] [] pos) (aLRg fa) := by
  obtain ⟨ta, pa, ha⟩ := ha.out
  refine SimL.mk (pe_listRg hc hg hm (prg_1 hg2 hm2 pa na) nb) (fun w d σ Q s e h => ?_)
  refine ha w d σ _ s e ((Pst.of_bind h).mono (fun u S1 h1 w1 v eS st s1 r => ?_) fun _ _ q => q)
  subst eS
  split at h1
  · rename_i n
    obtain ⟨hl, h1⟩ := guard_post h1
    rw [Bool.and_eq_true] at hl
    have h2 := of_decide_eq_true hl.1
    have h3 := of_decide_eq_true hl.2
    cases r
    exact ⟨n, rfl, ⟨by omega, by omega, h2, by omega, by omega⟩, fun q hq => h1 w1 q _ rfl st s1 (rng_vr n) hq⟩
  · exact h1.elim
end
end DL
set_option maxHeartbeats 1000000
namespace DL
open PySem PySem.Spec L2 PyProof.Rows
section
variable {X : Cx} {Wx : WX} {tg : Expr}
theorem rvs_rg (n : Nat) : sliceRange 0 (n : Int) 1 = List.range n := by
  unfold sliceRange
  rw [if_pos (by decide)]
  have hc : (if (0 : Int) < (n : Int) then ((n : Int) - 0 + 1 - 1) / 1 else 0) = (n : Int) := by
    by_cases q : (0 : Int) < (n : Int)
    · rw [if_pos q, Int.ediv_one]; omega
    · rw [if_neg q]; omega
  dsimp only
  rw [hc, Int.toNat_natCast]
  refine (List.map_congr_left fun k _ => ?_).trans (List.map_id _)
  show ((0 : Int) + 1 * (k : Int)).toNat = id k
  rw [id]; omega
theorem rvs_pick (xs : Array Value) : slicePick xs none none (some 1) = xs := by
  have hb : sliceBounds none none (some 1) xs.size = (0, (xs.size : Int), 1) := by simp [sliceBounds]
  unfold slicePick
  rw [hb]
  show ((sliceRange 0 (xs.size : Int) 1).filterMap (xs[·]?)).toArray = _
  rw [rvs_rg, PySem.W.krv_all]
def stepV {α : Type} (k : Int) (xs : List α) : List α := if k = 1 then xs else xs.reverse
def tStepL (K : PySem.W.Frag) (te ts : TE) : TE := fun σ H Q => te σ H fun x H1 => tPart ts σ H1 fun o H2 => ∃ a xs k, x = .ref a ∧ o = some k ∧ (k = 1 ∨ k = -1) ∧ SqL K H2 a xs ∧ ∀ p, H2 p = none → Q (.ref p) (upd H2 p (.lst (stepV k xs)))
theorem pe_stepL {e st : Expr} {te ts : TE} {p3 pos : Pos} (he : PE X e te) (hs : PE X st ts) : PE X (.Subscript e (.Slice none none (some st) p3) pos) (tStepL X.K te ts) := by
  refine ⟨fun pins s σ H Q I h => Subscript_ (thn (he.run pins s σ H _ I h) ?_)⟩
  rintro v s1 ⟨x, H1, I1, r1, q1⟩
  refine wpAny_Slice (thn (po_none.run pins s1 σ H1 (fun o H2 => o = none ∧ H2 = H1) I1 ⟨rfl, rfl⟩) fun lv s2 ⟨l, H2, I2, pl, el, e2⟩ => ?_)
  subst el e2
  refine thn (po_none.run pins s2 σ H2 (fun o H3 => o = none ∧ H3 = H2) I2 ⟨rfl, rfl⟩) fun uv s3 ⟨u, H3, I3, pu, eu, e3⟩ => ?_
  subst eu e3
  refine thn ((po_some hs).run pins s3 σ H3 _ I3 q1) fun sv s4 ⟨o, H4, I4, ps, a, xs, k, ex, eo, hk, hx, hq⟩ => ?_
  subst ex eo
  cases r1
  have I5 : Inv X pins σ H4 { s4 with heap := s4.heap.push { cls := .type "slice", data := .fields #[lv, uv, sv] } } := I4.kept (t' := s4.toks) fun b ob q => Heap.get?_push_of_some _ q
  obtain ⟨its, r, ht, hz⟩ := I5.list hx; have hlen := r.length
  refine tail_any (ops := [.ref a, .ref s4.heap.objs.size]) (id := "list.__getitem__") ht.isList.typeIs PySem.slot_list_getitem.lookup ?_ (by with_unfolding_all rfl)
  refine wpAny_getItem_list_slice ht.isList (Heap.IsSliceOf.new _ lv uv sv) pl pu ps (by rcases hk with rfl | rfl <;> decide) ?_ (by rw [List.size_toArray]; omega)
  have hp : slicePick its.toArray none none (some k) = (stepV k its).toArray := by
    rcases hk with rfl | rfl
    · rw [rvs_pick]; rfl
    · rw [PySem.W.krv_pick]; rfl
  rw [hp]
  have hv : Vals (stepV k xs) (stepV k its) ∧ (stepV k xs).length = xs.length := by
    rcases hk with rfl | rfl
    · exact ⟨r, rfl⟩
    · exact ⟨r.reverse, List.length_reverse⟩
  refine ⟨.ref _, _, I5.laid (t' := s4.toks) (o := .lst (stepV k xs)) (fun b ob q => Heap.get?_push_of_some _ q) (Nat.le_refl _) ?_, rfl, hq _ (I5.hok.fresh (Nat.le_refl _))⟩
  exact ⟨by rw [hv.2]; exact hz, _, 0, hv.1, Heap.get?_push_size _ rfl⟩
def aStep (fe fs : FE) : FA := fun d S => (fe d S).bind fun u S1 => (fs d S1).bind fun k S2 => match DL.listOf u S2, k with
  | some us, .int k => guard (decide (k = 1 ∨ k = -1)) (.ok (stepV k us) S2)
  | _, _ => .bad
theorem sl_step {e st : Expr} {fe fs : FE} {p3 pos : Pos} (he : SimE X Wx e fe) (hs : SimE X Wx st fs) : SimL X Wx (.Subscript e (.Slice none none (some st) p3) pos) (aStep fe fs) := by
  obtain ⟨te, pe, he⟩ := he.out
  obtain ⟨ts, ps, hs⟩ := hs.out
  refine SimL.mk (pe_stepL pe ps) (fun w d σ Q s e h => he w d σ _ s e ((Pst.of_bind h).mono (fun u S1 h1 w1 v eS st s1 r => ?_) fun _ _ q => q))
  subst eS
  refine hs w1 d σ _ s1 (e.ext st.x s) ((Pst.of_bind h1).mono (fun y S2 h2 w2 v2 eS2 st2 s2 r2 => ?_) fun _ _ q => q.up st)
  subst eS2
  split at h2
  · rename_i us k hu
    obtain ⟨hl, h2⟩ := guard_post h2
    obtain ⟨a, xs, rfl, hq, rs⟩ := listOf_ok s2 (r.ext st2.x s1) hu
    cases r2
    have rv : VRs (KMof X) w2 (stepV k us) (stepV k xs) := by
      unfold stepV
      split
      · exact rs
      · exact vrs_rev rs
    exact ⟨k, rfl, a, xs, k, rfl, rfl, of_decide_eq_true hl, hq, fun z hz => h2 w2 z _ rfl (st.trans st2) s2 rv hz⟩
  · exact h2.elim
end
end DL
set_option maxHeartbeats 1000000
namespace SRT
open PySem PySem.Calls PySem.W PySem.SeqAt PyProof.Rows
section
variable {prog : Program} {w : World} {A : Around} {E : Value → Shared → Prop} {s : Shared}
end
end SRT
namespace DL
open PySem PySem.Spec L2
section
variable {X : Cx} {Wx : WX}
end
end DL
set_option maxHeartbeats 1000000
namespace DL
open PySem PySem.Spec L2 PyProof.Rows
section
variable {X : Cx} {Wx : WX}
end
end DL
set_option maxHeartbeats 1000000
namespace DL
open PySem PySem.Spec L2 PyProof.Rows
section
variable {X : Cx} {Wx : WX}
structure SimK (X : Cx) (Wx : WX) (kws : List Keyword) (fk : FA) : Prop where
  out : ∃ t, PK X kws t ∧ ∀ (w : Wd) (d : En) (σ : L2.St) (Q : List V → Hp → Prop), SR (KMof X) w → ER (KMof X) w d σ → Pst (fk d w.S) (OkA X w Q) (XPost X Wx σ w) → t σ w.H Q
variable {CX : CXT} {k n : Nat} {f C : Addr} {fd : FuncData} {ps ks : List Str} {sp : Sp} {E : L2.St → XK} {x : Str} {p pos : Pos} {e : Expr} {es : List Expr} {kws : List Keyword} {t tk : TA} {kkV : List V → List V}
end
end DL
set_option maxHeartbeats 1000000
namespace NEQ
open PySem PySem.W
open Sem (wp)
section
variable {prog : Program} {w : World} {A : Around} {E : Value → Shared → Prop} {s : Shared} {K : Frag} {x C f : Addr} {ox : Obj} {od : Option Obj} {b : Value}
end
end NEQ
namespace DL
open PySem PySem.Spec L2
section
variable {X : Cx} {Wx : WX}
end
end DL
set_option maxHeartbeats 4000000
namespace DL
open PySem PySem.Spec L2 PyProof.Rows
section
variable {X : Cx} {x n x2 n2 : Str} {c c2 : Value} {i i2 : Nat} {body suite suite2 : List Stmt} {s0 t0 : Stmt} {np np2 pos pos' pos2 : Pos} {tb : WX → TS} {ts ts2 : Addr → TS} {Wout : WX}
end
section
variable {X : Cx} {Wx : WX} {x n x2 n2 : Str} {c c2 : Value} {i i2 : Nat} {body suite suite2 : List Stmt} {s0 t0 : Stmt} {np np2 pos pos' pos2 : Pos} {fb fs fs2 : FS} {m m2 : Str → Option Bool}
end
end DL
namespace DL
open PySem PySem.Spec L2
end DL
set_option maxHeartbeats 4000000
namespace DL
open PySem PySem.Spec PyProof.Rows L2
theorem txt_le (a b : Str) : PySem.W.sortLe (PyProof.Rows.listOrd PyProof.Rows.itemOrd) false (fun k : Str => PySem.W.keyToks (.str k)) a b = leT a b := by
  show (!PyProof.Rows.lexLt PyProof.Rows.itemOrd (PySem.W.keyToks (.str b)) (PySem.W.keyToks (.str a))) = leT a b
  have h : PyProof.Rows.lexLt PyProof.Rows.itemOrd (PySem.W.keyToks (.str b)) (PySem.W.keyToks (.str a)) = decide (b.cps.toList < a.cps.toList) := PySem.W.dataLt_str b a
  rw [h]
  unfold leT
  rw [PyProof.Rows.ltCps_eq]
theorem alike_strs (ks : List Str) : PySem.W.AllAlike (ks.map PyData.str) := fun d hd e he => by
  obtain ⟨a, _, rfl⟩ := List.mem_map.mp hd
  obtain ⟨b, _, rfl⟩ := List.mem_map.mp he
  rfl
theorem strs_reads {h : Heap} : ∀ {vs : List Value} {ks : List Str}, StrsAre vs ks → PySem.W.EachIs (fun u (k : Str) => (∃ t, u = Value.str k t) ∧ ∃ as, Reads h u (.str k) as) vs ks
  | _, _, .nil => .nil
  | _, _, .cons y t r => .cons ⟨⟨t, rfl⟩, _, .str y t⟩ (strs_reads r)
theorem each_strs {vs : List Value} {ks : List Str} (h : PySem.W.EachIs (fun u (k : Str) => ∃ t, u = Value.str k t) vs ks) : StrsAre vs ks := by
  induction h with
  | nil => exact .nil
  | cons r _ ih =>
    obtain ⟨t, rfl⟩ := r
    exact .cons _ t ih
section
variable {prog : Program} {w : World} {A : Around} {E : Value → Shared → Prop} {s : Shared}
theorem sort_txts {a : Addr} {vs : List Value} {ks : List Str} {n : Nat} {P : PySem.Fin → Shared → Prop} (ho : s.heap.get? a = some (seqObj "list" vs.toArray n)) (hS : StrsAre vs ks) (hL : vs.length ≤ sizeLine) (hu : A.units < cLine)
    (h : ∀ out : List Value, StrsAre out (sortT ks) → P (.done (.ret .none)) { s with heap := PyProof.Rows.sortedHeap s.heap a vs out.toArray }) : wpAny (model prog w) A (Builtin.«list.sort» ⟨[.ref a], []⟩) P E s := by
  have e1 := strs_reads (h := PySem.W.sortingHeap s.heap a vs) hS
  have al := alike_strs ks
  have S := sorts_alike (prog := prog) (w := w) (A := A) (s := { s with heap := PySem.W.sortingHeap s.heap a vs }) (ds := ks.map PyData.str)
    (each_map (g := PyData.str) (fun _ _ z => z.2) e1) al (.inr fun d hd => by
      obtain ⟨k, _, rfl⟩ := List.mem_map.mp hd
      exact ⟨(by intro z; cases z), fun xs z => by cases z⟩) (fun d hd => by
      obtain ⟨k, _, rfl⟩ := List.mem_map.mp hd
      exact hu)
  refine PySem.W.list_sort_vals ho S hL ?_
  have key : PySem.W.EachIs (fun v (k : Str) => (PySem.W.dataKind (PySem.W.sortingHeap s.heap a vs) (ks.map PyData.str)).keyOf v = some (PySem.W.keyToks (.str k))) vs ks :=
    (PySem.W.each_mem e1).mono fun u k z => by
      obtain ⟨⟨_, as, ra⟩, hb⟩ := z
      exact PySem.W.dataKind_some al (List.mem_map.mpr ⟨k, hb, rfl⟩) ra
  have out := PySem.W.sortVals_each (κ := PySem.W.dataKind (PySem.W.sortingHeap s.heap a vs) (ks.map PyData.str)) (rev := false) (fun k : Str => PySem.W.keyToks (.str k)) (e1.mono fun u k h => h.1) key
  have e3 : ks.mergeSort (PySem.W.sortLe (PyProof.Rows.listOrd PyProof.Rows.itemOrd) false fun k : Str => PySem.W.keyToks (.str k)) = sortT ks := by
    unfold sortT
    congr 1
    funext a b
    exact txt_le a b
  have out2 := each_strs out
  rw [show ks.mergeSort (PySem.W.sortLe (PySem.W.dataKind (PySem.W.sortingHeap s.heap a vs) (ks.map PyData.str)).toKeyOrd false fun k : Str => PySem.W.keyToks (.str k)) = sortT ks from e3] at out2
  exact h _ out2
end
theorem sortT_eq {l m : List Str} (p : l.Perm m) : sortT l = sortT m := pw_unique (((sortT_perm l).trans p).trans (sortT_perm m).symm) (sortT_pw l) (sortT_pw m)
section
variable {X : Cx} {Wx : WX}
def rSortTW (X : Cx) : List V → Hp → VK → Prop := fun xs H Q => ∃ (a : Addr) (S : Str → Bool) (n : Nat), xs = [.ref a] ∧ H a = some (SsO X.prog X.w a S n) ∧ n ≤ 2000 ∧
  ∀ (ks : List Str) (p : Addr), ks.Nodup → (∀ k, k ∈ ks ↔ S k = true) → H p = none → Q (.ref p) (upd H p (.lst ((sortT ks).map V.str)))
theorem cr_sortTW (hc : X.calm = true) (hu : X.A.units + 64 < cLine) : CallR X (.builtin "sorted") (rSortTW X) := by
  intro pins s σ H xs us Q I r h
  obtain ⟨a, S, n, rfl, ha, h64, q⟩ := h
  rw [Vals.ref1 r]
  obtain ⟨o, es, ep, t, ho, hex, hd, g, nd, hm, hb, hf, hn, hr, hl⟩ := sso_get I ha
  refine Calls.call_function_entry PyProof.Rows.kind_sorted PyProof.Rows.plain_sorted PyProof.Rows.entry_sorted (PyProof.Rows.args_sorted1 _) ?_
  unfold Builtin.«sorted»
  refine wpAny_bind (m := checkCount "sorted" 1 1 _) (wpAny_pure (wpAny_bind (collect_set (A := X.A.in1) (I.ok.hd hc) ⟨o, ho, hex.1, hd⟩ hf hb hr hl fun s1 vs k1 hz g1 o1 pm => ?_)))
  have vl : vs.length = n := by rw [pm.length_eq, List.length_map, Array.length_toList]; exact hn
  obtain ⟨ks, hS, eks⟩ := txts_of (P := X.prog) (w := X.w) (l := vs) fun v hv => by
    obtain ⟨e, he, z⟩ := List.mem_map.mp (pm.mem_iff.mp hv)
    obtain ⟨k, tk, h1, _⟩ := g e he
    exact ⟨k, tk, by rw [← z]; exact h1⟩
  have pk : ks.Perm (es.toList.map txtOf) := by
    have z := pm.map (fun v => txtOf (0, v))
    rw [eks, List.map_map] at z
    exact z
  have kl : ks.length = n := by rw [← eks, List.length_map, vl]
  have I1 : Inv X pins σ H s1 := I.call' (ch := []) o1 (Un.kept k1) (I.hok.kept k1) (by rw [g1]; exact I.bare) (fun _ z => nomatch z)
  refine wpAny_bind (wpAny_newList ?_ (by rw [vl, sizeLine_eq]; omega))
  have hoL : (s1.heap.push (seqObj "list" vs.toArray 0)).get? s1.heap.objs.size = some (seqObj "list" vs.toArray 0) := Heap.get?_push_size _ rfl
  refine wpAny_bind (wpAny_holding (wpAny_call_entry PyProof.Rows.slot_list_sort ⟨_, hoL, rfl⟩ PyProof.Rows.entry_list_sort
    (sort_txts (s := { s1 with heap := s1.heap.push (seqObj "list" vs.toArray 0) }) hoL hS (by rw [vl, sizeLine_eq]; omega) (by show X.A.units + 1 + 1 < cLine; omega) fun out z1 => ⟨_, rfl, ?_⟩) (PyProof.Rows.args_list_sort _)))
  obtain ⟨e2, he2⟩ := PyProof.Rows.sortedHeap_at (vs := vs) (out := out.toArray) hoL
  have yl : ((sortT ks).map V.str).length ≤ sizeLine := by rw [List.length_map, (sortT_perm ks).length_eq, kl, sizeLine_eq]; omega
  have fr : H s1.heap.objs.size = none := I1.hok.fresh (Nat.le_refl _)
  refine wpAny_pure ⟨_, rfl, .ref s1.heap.objs.size, upd H s1.heap.objs.size (.lst ((sortT ks).map V.str)), I1.laid (t' := s1.toks) (fun b u e => ?_) (Nat.le_refl _) (show ObjOk X.prog X.w _ _ _ (.lst ((sortT ks).map V.str)) from ⟨yl, out, e2, vals_of_strs z1, he2⟩), rfl, ?_⟩
  · have hb : b < s1.heap.objs.size := Heap.lt_size e
    rw [PyProof.Rows.sortedHeap_old (Nat.ne_of_lt hb) (by rw [size_push']; exact Nat.lt_succ_of_lt hb)]
    exact Heap.get?_push_of_some _ e
  · exact q ks _ (pk.nodup_iff.mpr nd) (fun k => by rw [pk.mem_iff, ← hm k]) fr
theorem call_sortedDW (hcalm : X.calm = true) (hu : X.A.units + 64 < cLine) : CallR X (.builtin "sorted") (fun xs H Q => ∃ (a : Addr) (kvs : List (Key × V)) (ks : List Str), xs = [.ref a] ∧ Rd H a (.dK kvs) ∧ kvs.map (·.1) = ks.map Sum.inr ∧ ks.length ≤ 1000000 ∧
    ∀ p, H p = none → Q (.ref p) (upd H p (.lst ((sortT ks).map V.str)))) := by
  intro pins s σ H xs us Q I r q
  obtain ⟨a, kvs, ks, ex, hd, hks, h64, q⟩ := q
  subst ex
  obtain ⟨u, eu, rx⟩ := vals1 r
  subst eu
  cases rx
  obtain ⟨z, lo, vs, rel, dd⟩ := dk_rd I.hok hd
  obtain ⟨ep, hat⟩ := dd.dictAt
  have hkeys : vs.map (·.1) = ks.map Sum.inr := rel.keys.symm.trans hks
  have hl : vs.length = ks.length := by
    have e := congrArg List.length hkeys
    rw [List.length_map, List.length_map] at e
    exact e
  have h16 : vs.length ≤ sizeLine := by rw [hl, sizeLine_eq]; omega
  refine Calls.call_function_entry PyProof.Rows.kind_sorted PyProof.Rows.plain_sorted PyProof.Rows.entry_sorted (PyProof.Rows.args_sorted1 _) ?_
  unfold Builtin.«sorted»
  refine wpAny_bind (m := checkCount "sorted" 1 1 _) (wpAny_pure ?_)
  refine wpAny_bind (PySem.W.kdu_collect (A := X.A.in1) (PySem.W.kdl_dict (knd := mixKind X.prog X.w) (kvs := vs) (ep := ep) lo) (I.ok.hd hcalm) hat h16 fun h' tk acc hk hacc => ?_)
  have hal : acc.toList.length = ks.length := by rw [Array.length_toList, hacc.1, hl]
  have hS : StrsAre acc.toList ks := strs_at hal fun j v e => by
    obtain ⟨k, x, e1, e2⟩ := hacc.2 j v (by rw [← Array.getElem?_toList]; exact e)
    have e3 : (vs.map (·.1))[j]? = some k := by rw [List.getElem?_map, e1]; all_goals rfl
    rw [hkeys, List.getElem?_map] at e3
    cases e4 : ks[j]? with
    | none => rw [e4] at e3; cases e3
    | some y =>
      rw [e4] at e3
      have e5 : Sum.inr y = k := Option.some.inj e3
      subst e5
      obtain ⟨t, ev⟩ := Value.isStrOf_shape (x := y) (v := v) e2
      exact ⟨y, t, rfl, ev⟩
  have I1 : Inv X pins σ H { s with heap := h', toks := tk } := I.kept hk
  refine wpAny_bind (wpAny_newList ?_ (by rw [hal, sizeLine_eq]; omega))
  have hoL : (h'.push (seqObj "list" acc.toList.toArray 0)).get? h'.objs.size = some (seqObj "list" acc.toList.toArray 0) := Heap.get?_push_size _ rfl
  show wpAny _ _ _ _ _ { s with heap := h'.push (seqObj "list" acc.toList.toArray 0), toks := tk }
  refine wpAny_bind (wpAny_holding (wpAny_call_entry PyProof.Rows.slot_list_sort ⟨_, hoL, rfl⟩ PyProof.Rows.entry_list_sort
    (sort_txts (s := { s with heap := h'.push (seqObj "list" acc.toList.toArray 0), toks := tk }) hoL hS (by rw [hal, sizeLine_eq]; omega) (by show X.A.units + 1 + 1 < cLine; omega) fun out g1 => ⟨_, rfl, ?_⟩)
    (PyProof.Rows.args_list_sort _)))
  obtain ⟨e', he'⟩ := PyProof.Rows.sortedHeap_at (vs := acc.toList) (out := out.toArray) hoL
  have hlen : ((sortT ks).map V.str).length ≤ sizeLine := by
    rw [List.length_map, (sortT_perm ks).length_eq, sizeLine_eq]
    omega
  refine wpAny_pure ⟨_, rfl, .ref h'.objs.size, upd H h'.objs.size (.lst ((sortT ks).map V.str)), I1.laid (t' := tk) (fun b u e => ?_) (Nat.le_refl _)
    (show ObjOk X.prog X.w _ _ _ (.lst ((sortT ks).map V.str)) from ⟨hlen, out, e', vals_of_strs g1, he'⟩), rfl, q _ (I1.hok.fresh (Nat.le_refl _))⟩
  have hb : b < h'.objs.size := Heap.lt_size e
  rw [PyProof.Rows.sortedHeap_old (Nat.ne_of_lt hb) (by rw [size_push']; exact Nat.lt_succ_of_lt hb)]
  exact Heap.get?_push_of_some _ e
def sortDicW (us : List U) (S : Sto) : R (List U) := match us with
  | [u] => match dictOf u S with
    | some p => match keysS p.1 with
      | some zs => guard (decide (zs.length ≤ 1000000)) (.ok ((sortT zs).map .str) S)
      | none => .bad
    | none => .bad
  | _ => .bad
theorem cl_sortDicW (hc : X.calm = true) (hu : X.A.units + 64 < cLine) : CallSimL X (.builtin "sorted") sortDicW := by
  refine ⟨_, call_sortedDW hc hu, fun w us vs Q E s rs h => ?_⟩
  unfold sortDicW at h
  split at h
  · rename_i u
    cases rs with
    | cons r rs =>
      cases rs
      split at h
      · rename_i p hd
        obtain ⟨ks, us⟩ := p
        split at h
        · rename_i zs hk
          obtain ⟨hl, h⟩ := guard_post h
          have hk := keysS_ok hk
          obtain ⟨a, xs, rfl, q, l, rx⟩ := dictOf_ok s r hd
          refine ⟨a, _, zs, rfl, .inl q, ?_, of_decide_eq_true hl, fun p hp => h w p _ rfl (Stp.refl w) s (strs_rel _) hp⟩
          rw [List.map_fst_zip (by rw [← rx.length, ← l]; exact Nat.le_refl _)]
          exact hk
        · exact h.elim
      · exact h.elim
  · exact h.elim
def sortedW (us : List U) (S : Sto) : R (List U) := alt (sortDicW us S) (sortedA us S)
theorem cl_sortedW (hc : X.calm = true) (hu : X.A.units + 64 < cLine) : CallSimL X (.builtin "sorted") sortedW := (cl_sortDicW hc hu).alt (cl_sortedA hc hu)
end
end DL
set_option maxHeartbeats 4000000
namespace DL
open PySem PySem.Spec PyProof.Rows L2
section
variable {X : Cx} {Wx : WX}
end
end DL
set_option maxHeartbeats 1000000
namespace DL
open PySem PySem.Spec L2 PyProof.Rows
section
variable {X : Cx} {Wx : WX}
end
end DL
set_option maxHeartbeats 1000000
namespace TFI
open PySem PyProof.Rows SeqAt
end TFI
namespace DL
open PySem PySem.Spec L2 PyProof.Rows
section
variable {X : Cx} {Wx : WX}
end
end DL
namespace DL
open PySem PySem.Spec L2
def shlU (x y : U) (S : Sto) : R U := match x, y with
  | .int i, .int j => guard (decide (i = 1) && decide (0 ≤ j) && decide (j ≤ 100000000)) (.ok (.int (2 ^ j.toNat)) S)
  | _, _ => .bad
section
variable {X : Cx}
theorem noX_shl (x y : U) (S : Sto) : noX (shlU x y S) := by unfold shlU; split <;> first | trivial | exact noX_guard trivial
theorem os_shl : OpSim X (binaryOp .LShift) shlU := by
  refine ⟨_, op_oneShl, fun w x y v v' Q s rx ry h => ?_⟩
  unfold shlU at h
  split at h
  · rename_i i j
    obtain ⟨hl, hz⟩ := guard_post h
    clear h
    have hl1 : i = 1 ∧ 0 ≤ j ∧ j ≤ 100000000 := by
      simp only [Bool.and_eq_true, decide_eq_true_eq] at hl
      exact ⟨hl.1.1, hl.1.2, hl.2⟩
    obtain ⟨h1, h2, h3⟩ := hl1
    clear hl
    obtain ⟨k, rfl⟩ := Int.eq_ofNat_of_zero_le h2
    subst h1
    rw [Int.toNat_natCast] at hz
    cases rx; cases ry; exact ⟨k, rfl, rfl, by omega, OkE.here hz s (.int _)⟩
  · exact h.elim
end
end DL
namespace PySem.SeqAt
open AutoSeq1 (wpAny_loadPart')
open MeetsSeq MeetsSeq2 MeetsSeq3 SeqRoads2
section
variable {prog : Program} {w : World}
variable {A : Around} {E : Value → Shared → Prop} {s : Shared}
end
end PySem.SeqAt
namespace DL
open PySem PySem.Spec L2
section
variable {X : Cx} {Wx : WX}
end
end DL
set_option maxHeartbeats 1000000
namespace TPE
open PySem PySem.SeqAt
open AutoSeq1 (wpAny_loadPart')
open MeetsSeq MeetsSeq2 MeetsSeq3 SeqRoads2
section
variable {prog : Program} {w : World} {A : Around} {R : Result → Shared → Prop}
end
section
variable {prog : Program} {w : World} {A : Around} {E : Value → Shared → Prop} {s : Shared}
end
end TPE
namespace DL
open PySem PySem.Spec L2
section
variable {X : Cx} {Wx : WX}
open Classical in
end
end DL
namespace DL
open PySem PySem.Spec L2
mutual
def closedU : U → Bool
  | .loc _ => false
  | .tup us => closedUs us
  | .lst us => closedUs us
  | .frz us => closedUs us
  | .dic _ us => closedUs us
  | .exc _ _ u => closedU u
  | _ => true
def closedUs : List U → Bool
  | [] => true
  | u :: us => closedU u && closedUs us
end
mutual
def shU (b : Nat) : U → U
  | .loc n => .loc (b + n)
  | .tup us => .tup (shUs b us)
  | .lst us => .lst (shUs b us)
  | .frz us => .frz (shUs b us)
  | .dic ks us => .dic ks (shUs b us)
  | .exc c f u => .exc c f (shU b u)
  | u => u
def shUs (b : Nat) : List U → List U
  | [] => []
  | u :: us => shU b u :: shUs b us
end
def shOb (b : Nat) : Ob → Ob
  | .lst us => .lst (shUs b us)
  | .dic ks us => .dic ks (shUs b us)
  | .ins c fs => .ins c (fs.map fun p => (p.1, shU b p.2))
  | .kd ks us => .kd (shUs b ks) (shUs b us)
  | .dead => .dead
theorem shUs_map (b : Nat) : ∀ us : List U, shUs b us = us.map (shU b)
  | [] => rfl
  | u :: us => by unfold shUs; rw [shUs_map b us]; rfl
mutual
theorem sh_closed (b : Nat) : ∀ u : U, closedU u = true → shU b u = u
  | .loc _, h => by cases h
  | .tup us, h => by unfold shU; rw [shs_closed b us h]
  | .lst us, h => by unfold shU; rw [shs_closed b us h]
  | .frz us, h => by unfold shU; rw [shs_closed b us h]
  | .dic ks us, h => by unfold shU; rw [shs_closed b us h]
  | .exc c f u, h => by unfold shU; rw [sh_closed b u h]
  | .non, _ => rfl
  | .bl _, _ => rfl
  | .int _, _ => rfl
  | .str _, _ => rfl
  | .ty _, _ => rfl
  | .cl _, _ => rfl
theorem shs_closed (b : Nat) : ∀ us : List U, closedUs us = true → shUs b us = us
  | [], _ => rfl
  | u :: us, h => by
    unfold closedUs at h
    rw [Bool.and_eq_true] at h
    unfold shUs
    rw [sh_closed b u h.1, shs_closed b us h.2]
end
mutual
theorem keyN_sh (b : Nat) : ∀ u : U, keyN (shU b u) = keyN u
  | .loc _ => rfl
  | .tup us => by unfold shU keyN; rw [keyNs_sh b us]
  | .lst us => rfl
  | .frz us => rfl
  | .dic ks us => rfl
  | .exc c f u => rfl
  | .non => rfl
  | .bl _ => rfl
  | .int _ => rfl
  | .str _ => rfl
  | .ty _ => rfl
  | .cl _ => rfl
theorem keyNs_sh (b : Nat) : ∀ us : List U, keyNs (shUs b us) = keyNs us
  | [] => rfl
  | u :: us => by unfold shUs keyNs; rw [keyN_sh b u, keyNs_sh b us]
end
theorem keyT_sh (b : Nat) (u : U) : keyT (shU b u) = keyT u := by unfold keyT; rw [keyN_sh]
section
variable {K : KM} {w w' : Wd}
def notDead : Ob → Bool
  | .dead => false
  | _ => true
theorem notDead_iff {o : Ob} : notDead o = true ↔ o ≠ .dead := by cases o <;> simp [notDead]
def keptL (w : Wd) : List Addr := (List.range w.m.length).filterMap fun n => match w.m[n]?, w.S[n]? with
  | some a, some o => if notDead o = true then some a else none
  | _, _ => none
theorem keptL_mem {a : Addr} : a ∈ keptL w ↔ w.kept a := by
  unfold keptL
  rw [List.mem_filterMap]
  constructor
  · rintro ⟨n, _, h⟩
    split at h
    · rename_i a' o h1 h2
      split at h
      · rename_i h3
        cases h
        exact ⟨n, o, h1, h2, notDead_iff.mp h3⟩
      · cases h
    · cases h
  · rintro ⟨n, o, h1, h2, h3⟩
    refine ⟨n, List.mem_range.mpr (List.getElem?_eq_some_iff.mp h1).1, ?_⟩
    rw [h1, h2]
    dsimp only
    rw [if_pos (notDead_iff.mpr h3)]
def Wd.bare (w : Wd) : Wd := ⟨[], [], w.H, w.r ++ keptL w⟩
theorem bare_r {a : Addr} : a ∈ w.bare.r ↔ w.live a := by
  show a ∈ w.r ++ keptL w ↔ _
  rw [List.mem_append, keptL_mem]
  rfl
theorem bare_live {a : Addr} : w.bare.live a ↔ w.live a := by
  constructor
  · rintro (h | ⟨n, o, h, _⟩)
    · exact bare_r.mp h
    · cases h
  · exact fun h => .inl (bare_r.mpr h)
theorem SR.bare (s : SR K w) : SR K w.bare := by
  refine ⟨rfl, fun i j a o o' h => (by cases h), fun n a o h => (by cases h), fun a h => ?_, fun a _ ⟨n, o, h, _⟩ => (by cases h)⟩
  rcases bare_r.mp h with h | ⟨n, o, h1, h2, h3⟩
  · exact s.rk a h
  · have q := s.obj n a o h1 h2
    cases o with
    | lst us => obtain ⟨xs, e, _⟩ := q; exact ⟨_, e, .inl (.inl ⟨_, rfl⟩)⟩
    | dic ks us => obtain ⟨xs, e, _⟩ := q; exact ⟨_, e, .inl (.inr ⟨_, rfl⟩)⟩
    | ins c fs => obtain ⟨C, dx, xs, _, e, _⟩ := q; exact ⟨_, e, .inr (.inl ⟨_, _, _, rfl⟩)⟩
    | kd ks us => obtain ⟨L, e, _⟩ := q; exact ⟨_, e, .inr (.inr ⟨_, rfl⟩)⟩
    | dead => exact absurd rfl h3
mutual
theorem VR.bare : ∀ {u : U} {v : V}, closedU u = true → VR K w u v → VR K w.bare u v
  | _, _, _, .non => .non
  | _, _, _, .bl b => .bl b
  | _, _, _, .int i => .int i
  | _, _, _, .str y => .str y
  | _, _, c, .tup h r => .tup h (VRs.bare c r)
  | _, _, c, .lst h n r => .lst h (fun q => n (bare_live.mp q)) (VRs.bare c r)
  | _, _, c, .frz h r => .frz h (VRs.bare c r)
  | _, _, c, .dic h n l r => .dic h (fun q => n (bare_live.mp q)) l (VRs.bare c r)
  | _, _, c, .loc h => by cases c
  | _, _, _, .ty n => .ty n
  | _, _, c, .exc h h2 m r => .exc h h2 m (VR.bare c r)
  | _, _, _, .cl h => .cl h
theorem VRs.bare : ∀ {us : List U} {vs : List V}, closedUs us = true → VRs K w us vs → VRs K w.bare us vs
  | _, _, _, .nil => .nil
  | _, _, c, .cons h r => by
    unfold closedUs at c
    rw [Bool.and_eq_true] at c
    exact .cons (VR.bare c.1 h) (VRs.bare c.2 r)
end
def Wd.both (w w' : Wd) : Wd := ⟨w.m ++ w'.m, w.S ++ w'.S.map (shOb w.S.length), w'.H, w.r⟩
theorem both_kept (s : SR K w) (s' : SR K w') {a : Addr} (h : (w.both w').kept a) : w.kept a ∨ w'.kept a := by
  obtain ⟨n, o, h1, h2, h3⟩ := h
  have h1 : (w.m ++ w'.m)[n]? = some a := h1
  have h2 : (w.S ++ w'.S.map (shOb w.S.length))[n]? = some o := h2
  have l := s.len
  by_cases hn : n < w.m.length
  · rw [List.getElem?_append_left hn] at h1
    rw [List.getElem?_append_left (by omega)] at h2
    exact .inl ⟨n, o, h1, h2, h3⟩
  · rw [List.getElem?_append_right (by omega)] at h1 h2
    rw [List.getElem?_map] at h2
    obtain ⟨o', e1, e2⟩ := Option.map_eq_some_iff.mp h2
    rw [← l] at e1
    refine .inr ⟨_, o', h1, e1, fun z => h3 ?_⟩
    rw [← e2, z]
    rfl
theorem both_live (s : SR K w) (s' : SR K w') (st : Stp w.bare w') {a : Addr} (h : (w.both w').live a) : w'.live a := by
  rcases h with h | h
  · exact .inl (by rw [st.r]; exact bare_r.mpr (.inl h))
  · rcases both_kept s s' h with h | h
    · exact .inl (by rw [st.r]; exact bare_r.mpr (.inr h))
    · exact .inr h
mutual
theorem VR.both (s : SR K w) (s' : SR K w') (st : Stp w.bare w') : ∀ {u : U} {v : V}, VR K w' u v → VR K (w.both w') (shU w.S.length u) v
  | _, _, .non => .non
  | _, _, .bl b => .bl b
  | _, _, .int i => .int i
  | _, _, .str y => .str y
  | _, _, .tup h r => .tup h (VRs.both s s' st r)
  | _, _, .lst h n r => .lst h (fun q => n (both_live s s' st q)) (VRs.both s s' st r)
  | _, _, .frz h r => .frz h (VRs.both s s' st r)
  | _, _, .dic h n l r => .dic h (fun q => n (both_live s s' st q)) (by rw [shUs_map, List.length_map]; exact l) (VRs.both s s' st r)
  | _, _, .loc (n := n) h => .loc (by
    show (w.m ++ w'.m)[w.S.length + n]? = _
    rw [List.getElem?_append_right (by rw [s.len]; omega), s.len, Nat.add_sub_cancel_left]
    exact h)
  | _, _, .ty n => .ty n
  | _, _, .exc h h2 m r => .exc h h2 m (VR.both s s' st r)
  | _, _, .cl h => .cl h
theorem VRs.both (s : SR K w) (s' : SR K w') (st : Stp w.bare w') : ∀ {us : List U} {vs : List V}, VRs K w' us vs → VRs K (w.both w') (shUs w.S.length us) vs
  | _, _, .nil => .nil
  | _, _, .cons h r => .cons (VR.both s s' st h) (VRs.both s s' st r)
end
theorem Ext.both (s : SR K w) (s' : SR K w') (st : Stp w.bare w') : Ext w (w.both w') := by
  refine ⟨⟨w'.m, rfl⟩, fun a o h n => st.x.keep a o h (fun q => n (bare_live.mp q)), fun a h => ?_⟩
  rcases h with h | h
  · exact .inl (.inl h)
  · rcases both_kept s s' h with h | h
    · exact .inl (.inr h)
    · exact (st.x.live a (.inr h)).imp (fun q => bare_live.mp q) id
theorem both_at (st : Stp w.bare w') {a : Addr} (h : w.live a) : w'.H a = w.H a := st.k a (bare_r.mpr h)
theorem Stp.both (s : SR K w) (s' : SR K w') (st : Stp w.bare w') : Stp w (w.both w') := ⟨Ext.both s s' st, rfl, fun a h => both_at st (.inl h)⟩
theorem SR.both (s : SR K w) (s' : SR K w') (st : Stp w.bare w') : SR K (w.both w') := by
  have x := Ext.both s s' st
  have l := s.len
  have cut : ∀ {n : Nat} {a : Addr} {o : Ob}, (w.m ++ w'.m)[n]? = some a → (w.S ++ w'.S.map (shOb w.S.length))[n]? = some o → (w.m[n]? = some a ∧ w.S[n]? = some o) ∨ (w.m.length ≤ n ∧ w'.m[n - w.m.length]? = some a ∧ ∃ o', w'.S[n - w.m.length]? = some o' ∧ o = shOb w.S.length o') := fun {n a o} h1 h2 => by
    by_cases hn : n < w.m.length
    · rw [List.getElem?_append_left hn] at h1
      rw [List.getElem?_append_left (by omega)] at h2
      exact .inl ⟨h1, h2⟩
    · rw [List.getElem?_append_right (by omega)] at h1 h2
      rw [List.getElem?_map] at h2
      obtain ⟨o', e1, e2⟩ := Option.map_eq_some_iff.mp h2
      rw [← l] at e1
      exact .inr ⟨by omega, h1, o', e1, e2.symm⟩
  have dd : ∀ {o' : Ob}, shOb w.S.length o' ≠ .dead → o' ≠ .dead := fun {o'} h e => h (by rw [e]; rfl)
  have mix : ∀ {i j : Nat} {a : Addr} {o o' : Ob}, w.m[i]? = some a → w.S[i]? = some o → o ≠ .dead → w'.m[j]? = some a → w'.S[j]? = some o' → o' ≠ .dead → False := fun {i j a o o'} h1 h2 h3 h4 h5 h6 =>
    s'.rd a (by rw [st.r]; exact bare_r.mpr (.inr ⟨i, o, h1, h2, h3⟩)) ⟨j, o', h4, h5, h6⟩
  refine ⟨?_, fun i j a o o' h1 h2 h3 h4 d d' => ?_, fun n a o h1 h2 => ?_, fun a h => ?_, fun a h q => ?_⟩
  · show (w.m ++ w'.m).length = (w.S ++ w'.S.map (shOb w.S.length)).length
    rw [List.length_append, List.length_append, List.length_map, l, s'.len]
  · rcases cut h1 h3 with ⟨p1, p2⟩ | ⟨p0, p1, o1, p2, rfl⟩ <;> rcases cut h2 h4 with ⟨q1, q2⟩ | ⟨q0, q1, o2, q2, rfl⟩
    · exact s.inj i j a o o' p1 q1 p2 q2 d d'
    · exact (mix p1 p2 d q1 q2 (dd d')).elim
    · exact (mix q1 q2 d' p1 p2 (dd d)).elim
    · have := s'.inj _ _ a o1 o2 p1 q1 p2 q2 (dd d) (dd d')
      omega
  · rcases cut h1 h2 with ⟨p1, p2⟩ | ⟨p0, p1, o1, p2, rfl⟩
    · by_cases hd : o = .dead
      · subst hd; trivial
      · exact (s.obj n a o p1 p2).ext x s (both_at st (.inr ⟨n, o, p1, p2, hd⟩))
    · have q := s'.obj _ a o1 p1 p2
      cases o1 with
      | lst us => obtain ⟨xs, e, r⟩ := q; exact ⟨xs, e, VRs.both s s' st r⟩
      | dic ks us => obtain ⟨xs, e, l2, r⟩ := q; exact ⟨xs, e, by rw [shUs_map, List.length_map]; exact l2, VRs.both s s' st r⟩
      | ins c fs =>
        obtain ⟨C, dx, xs, m, e, r⟩ := q
        refine ⟨C, dx, xs, m, ?_, ?_⟩
        · show w'.H a = some (.ins C dx (((fs.map fun p => (p.1, shU w.S.length p.2)).map (·.1)).zip xs))
          rw [List.map_map]
          exact e
        · have := VRs.both s s' st r
          rw [shUs_map, List.map_map] at this
          show VRs K (w.both w') ((fs.map fun p => (p.1, shU w.S.length p.2)).map (·.2)) xs
          rw [List.map_map]
          exact this
      | kd ks us =>
        obtain ⟨L, e, r1, r2, r3⟩ := q
        refine ⟨L, e, VRs.both s s' st r1, ?_, VRs.both s s' st r3⟩
        rw [shUs_map, List.map_map, ← r2]
        exact List.map_congr_left fun u _ => keyT_sh _ u
      | dead => trivial
  · obtain ⟨o, e, m⟩ := s.rk a h
    exact ⟨o, (both_at st (.inl h)).trans e, m⟩
  · rcases both_kept s s' q with q | q
    · exact s.rd a h q
    · exact s'.rd a (by rw [st.r]; exact bare_r.mpr (.inl h)) q
end
def shR (b : Nat) (S : Sto) (r : R U) : R U := match r with
  | .ok u T => .ok (shU b u) (S ++ T.map (shOb b))
  | .exc x T => .exc ⟨x.cls, x.fld, shU b x.arg⟩ (S ++ T.map (shOb b))
  | .bad => .bad
def fresh (g : List U → Sto → R U) (us : List U) (S : Sto) : R U := guard (closedUs us) (shR S.length S (g us []))
end DL
namespace DL
open PySem PySem.Spec L2
section
variable {X : Cx} {Wx : WX}
end
end DL
set_option maxHeartbeats 1000000
namespace DL
open PySem PySem.Spec L2
structure FnG (P : Program) (w : World) (K : PySem.W.Frag) (mg : Str → Option Value) (base : Heap) (CX : CXT) (k : Nat) (f : Addr) (fd : FuncData) (ps : List Str) (sp : Sp) : Prop where
  len : ∀ vs H Q E, sp vs H Q E → vs.length = ps.length
  run : ∀ (A : Around) (outer : List Env) (s : Shared) (H : Hp) (args : Args) (us : List Value) (vs : List V) (Q : VK) (E : XK), A.guards = some [] → Room k A → Env0 P w K mg base A outer s H → BindsTo s fd args (ps.zip us) → Vals vs us → sp vs H Q E →
    codeAny (model P w) A (.call (.ref f) args) (CR CX outer P w H s Q E) s
section
variable {P : Program} {w : World} {K : PySem.W.Frag} {mg : Str → Option Value} {base : Heap} {CX : CXT} {f : Addr} {fd : FuncData} {ps N : List Str} {k : Nat}
theorem FnG.of {sp : Sp} (F : FnOk P w K mg base CX k f fd ps sp) : FnG P w K mg base CX k f fd ps sp := ⟨F.len, fun A outer s H args us vs Q E _ => F.run A outer s H args us vs Q E⟩
theorem FnG.imp {sp sp' : Sp} (F : FnG P w K mg base CX k f fd ps sp) (h : ∀ vs H Q E, sp' vs H Q E → sp vs H Q E) : FnG P w K mg base CX k f fd ps sp' :=
  ⟨fun vs H Q E q => F.len vs H Q E (h _ _ _ _ q), fun A outer s H args us vs Q E g hr he hb hv hs => F.run A outer s H args us vs Q E g hr he hb hv (h _ _ _ _ hs)⟩
end
section
open PyProof.Rows
end
section
variable {X : Cx}
end
section
variable {X : Cx} {Wx : WX}
end
end DL
set_option maxHeartbeats 1000000
namespace DL
open PySem PySem.Spec PyProof.Rows L2
section
variable {X : Cx} {Wx : WX}
end
end DL
set_option maxHeartbeats 1000000
namespace DL
open PySem PySem.Spec L2
section
variable {X : Cx} {Wx : WX}
structure InsP (K : PySem.W.Frag) (C : Addr) : Prop where
  lst : PySem.W.kitOne K (.type "list") (.ref C) = some false
  int : PySem.W.kitOne K (.type "int") (.ref C) = some false
end
end DL
namespace DL
open PySem PySem.Spec L2
end DL
namespace DL
open PySem PySem.Spec PyProof.Rows L2
section
variable {prog : Program} {w : World} {A : Around} {E : Value → Shared → Prop} {s : Shared}
end
section
variable {X : Cx} {Wx : WX} {pos : Pos}
end
end DL
namespace DL
open PySem PySem.Spec L2
section
variable {X : Cx}
end
end DL
set_option maxHeartbeats 1000000
namespace DL
open PySem PySem.Spec PyProof.Rows L2
section
variable {K : KM} {w w' : Wd} {n : Nat} {a : Addr} {od : Obj} {kvs : List (Key × V)} {o : HO} {b : Ob}
structure Lk (w : Wd) (n : Nat) (a : Addr) (od : Obj) (kvs : List (Key × V)) : Prop where
  m : w.m[n]? = some a
  h : w.H a = some (.frz od (.dK kvs))
  nl : ¬ w.live a
theorem Lk.ne (l : Lk w n a od kvs) {c : Addr} {u : HO} (h : w.H c = some u) (hn : u ≠ .frz od (.dK kvs)) : c ≠ a := fun e => by
  subst e
  exact hn (Option.some.inj (h.symm.trans l.h))
theorem Lk.kept (l : Lk w n a od kvs) {c : Addr} (h : (w.put n a o b).kept c) : c = a ∨ w.kept c := by
  obtain ⟨k, q, h1, h2, h3⟩ := h
  have h1 : w.m[k]? = some c := h1
  rcases get_set (show (w.S.set n b)[k]? = some q from h2) with ⟨z, _⟩ | ⟨z, y⟩
  · subst z
    exact .inl (Option.some.inj (h1.symm.trans l.m))
  · exact .inr ⟨k, q, h1, y, h3⟩
theorem Lk.live (l : Lk w n a od kvs) {c : Addr} (h : (w.put n a o b).live c) : c = a ∨ w.live c := by
  rcases h with h | h
  · exact .inr (.inl h)
  · exact (l.kept h).imp id .inr
theorem Lk.at (c : Addr) (h : c ≠ a) : (w.put n a o b).H c = w.H c := upd_ne h
mutual
theorem VR.unl (l : Lk w n a od kvs) : ∀ {u : U} {v : V}, VR K w u v → VR K (w.put n a o b) u v
  | _, _, .non => .non
  | _, _, .bl b => .bl b
  | _, _, .int i => .int i
  | _, _, .str y => .str y
  | _, _, .tup h r => .tup (h.imp (fun q => (Lk.at _ (l.ne q (by intro z; cases z))).trans q) id) (VRs.unl l r)
  | _, _, .lst h nl r => .lst ((Lk.at _ (l.ne h (by intro z; cases z))).trans h) (fun q => (l.live q).elim (l.ne h (by intro z; cases z)) nl) (VRs.unl l r)
  | _, _, .frz h r => .frz (h.imp (fun ⟨o', q⟩ => ⟨o', (Lk.at _ (l.ne q (by intro z; cases z))).trans q⟩) id) (VRs.unl l r)
  | _, _, .dic h nl e r => .dic ((Lk.at _ (l.ne h (by intro z; cases z))).trans h) (fun q => (l.live q).elim (l.ne h (by intro z; cases z)) nl) e (VRs.unl l r)
  | _, _, .loc h => .loc h
  | _, _, .ty n => .ty n
  | _, _, .exc h h2 c r => .exc ((Lk.at _ (l.ne h (by intro z; unfold exv at z; cases z))).trans h) ((Lk.at _ (l.ne h2 (by intro z; cases z))).trans h2) c (VR.unl l r)
  | _, _, .cl h => .cl h
theorem VRs.unl (l : Lk w n a od kvs) : ∀ {us : List U} {vs : List V}, VRs K w us vs → VRs K (w.put n a o b) us vs
  | _, _, .nil => .nil
  | _, _, .cons h r => .cons (VR.unl l h) (VRs.unl l r)
end
theorem SR.unl (s : SR K w) (l : Lk w n a od kvs) (hr : a ∉ w.r) (hb : OR K (w.put n a o b) b a) : SR K (w.put n a o b) := by
  have ka : ∀ {k : Nat} {q : Ob}, w.m[k]? = some a → w.S[k]? = some q → q ≠ Ob.dead → False := fun h1 h2 h3 => l.nl (.inr ⟨_, _, h1, h2, h3⟩)
  refine ⟨by show w.m.length = (w.S.set n b).length; simp [s.len], fun i j c d d' h1 h2 h3 h4 e e' => ?_, fun k c d h1 h2 => ?_, fun c h => ?_, fun c h q => ?_⟩
  · have h1 : w.m[i]? = some c := h1
    have h2 : w.m[j]? = some c := h2
    rcases get_set (show (w.S.set n b)[i]? = some d from h3) with ⟨z, _⟩ | ⟨z, y⟩
    · rcases get_set (show (w.S.set n b)[j]? = some d' from h4) with ⟨z', _⟩ | ⟨z', y'⟩
      · rw [z, z']
      · rw [z] at h1
        cases l.m.symm.trans h1
        exact (ka h2 y' e').elim
    · rcases get_set (show (w.S.set n b)[j]? = some d' from h4) with ⟨z', _⟩ | ⟨z', y'⟩
      · rw [z'] at h2
        cases l.m.symm.trans h2
        exact (ka h1 y e).elim
      · exact s.inj i j c d d' h1 h2 y y' e e'
  · have h1 : w.m[k]? = some c := h1
    rcases get_set (show (w.S.set n b)[k]? = some d from h2) with ⟨z, y⟩ | ⟨z, y⟩
    · subst z y
      cases l.m.symm.trans h1
      exact hb
    · have q := s.obj k c d h1 y
      by_cases hd : d = .dead
      · subst hd; trivial
      have hc : c ≠ a := fun e => by subst e; exact ka h1 y hd
      cases d with
      | lst us => obtain ⟨xs, e, r⟩ := q; exact ⟨xs, (Lk.at _ hc).trans e, r.unl l⟩
      | dic ks us => obtain ⟨xs, e, e2, r⟩ := q; exact ⟨xs, (Lk.at _ hc).trans e, e2, r.unl l⟩
      | ins c' fs => obtain ⟨C, dx, xs, m, e, r⟩ := q; exact ⟨C, dx, xs, m, (Lk.at _ hc).trans e, r.unl l⟩
      | kd ks us => obtain ⟨L, e, r1, r2, r3⟩ := q; exact ⟨L, (Lk.at _ hc).trans e, r1.unl l, r2, r3.unl l⟩
      | dead => trivial
  · obtain ⟨x, e, mo⟩ := s.rk c h
    exact ⟨x, (Lk.at _ fun z => hr (by rw [← z]; exact h)).trans e, mo⟩
  · rcases l.kept q with z | z
    · exact hr (by rw [← z]; exact h)
    · exact s.rd c h z
theorem ER.unl {d : En} {σ : L2.St} (l : Lk w n a od kvs) (e : ER K w d σ) : ER K (w.put n a o b) d σ :=
  ⟨e.len, fun i u h => let ⟨v, h1, h2⟩ := e.get i u h; ⟨v, h1, h2.unl l⟩⟩
theorem Stp.unl {b0 : Ob} (s : SR K w) (hm : w.m[n]? = some a) (hS : w.S[n]? = some b0) (hd : b0 ≠ Ob.dead) (st : Stp (w.put n a o .dead) w') : Stp w (w'.put n a (.dK kvs) b0) := by
  have hl : w.live a := .inr ⟨n, b0, hm, hS, hd⟩
  have hr : a ∉ w.r := fun z => s.rd a z ⟨n, b0, hm, hS, hd⟩
  have hk : ∀ {c : Addr}, (w.put n a o .dead).live c → w.live c := fun {c} h => h.elim .inl fun ⟨k, q, h1, h2, h3⟩ => by
    have h1 : w.m[k]? = some c := h1
    rcases get_set (show (w.S.set n .dead)[k]? = some q from h2) with ⟨_, y⟩ | ⟨_, y⟩
    · exact absurd y h3
    · exact .inr ⟨k, q, h1, y, h3⟩
  refine ⟨⟨st.x.m, fun c u h nl => ?_, fun c h => ?_⟩, st.r, fun c h => ?_⟩
  · have hc : c ≠ a := fun e => nl (by rw [e]; exact hl)
    exact (Lk.at _ hc).trans (st.x.keep c u ((Lk.at _ hc).trans h) fun q => nl (hk q))
  · by_cases e : c = a
    · rw [e]; exact .inl hl
    have h2 : w'.live c := by
      rcases h with h | ⟨k, q, h1, h2, h3⟩
      · exact .inl h
      · have h1 : w'.m[k]? = some c := h1
        rcases get_set (show (w'.S.set n b0)[k]? = some q from h2) with ⟨z, _⟩ | ⟨_, y⟩
        · obtain ⟨ml, em⟩ := st.x.m
          have em : w'.m = w.m ++ ml := em
          rw [z, em, List.getElem?_append_left (List.getElem?_eq_some_iff.mp hm).1, hm] at h1
          exact absurd (Option.some.inj h1).symm e
        · exact .inr ⟨k, q, h1, y, h3⟩
    rcases st.x.live c h2 with q | q
    · exact .inl (hk q)
    · exact .inr ((Lk.at (w := w) (n := n) (o := o) (b := .dead) _ e).symm.trans q)
  · have hc : c ≠ a := fun e => hr (by rw [← e]; exact h)
    exact (Lk.at _ hc).trans ((st.k c h).trans (Lk.at _ hc))
end
section
variable {X : Cx} {Wx : WX} {e : Expr} {body : List Stmt} {pos tpos apos cpos : Pos} {elts : List Expr} {kk : Nat}
end
end DL
namespace DL
open PySem PySem.Spec PyProof.Rows L2
section
variable {X : Cx}
end
end DL
namespace DL
open PySem PySem.Spec PyProof.Rows L2
section
variable {X : Cx} {Wx : WX}
end
end DL
namespace DL
open PySem PySem.Spec PyProof.Rows L2
section
variable {X : Cx} {Wx : WX} {pos : Pos}
end
end DL
set_option maxHeartbeats 1000000
namespace DL
open PySem PySem.Spec L2
section
variable {X : Cx} {Wx : WX}
end
end DL
namespace DL
open PySem PySem.Spec L2
def shlGU (x y : U) (S : Sto) : R U := match x, y with
  | .int i, .int j => guard (decide (0 ≤ j) && decide ((Builtin.Int.intBits i : Int) + j ≤ 2 ^ 27)) (.ok (.int (i * 2 ^ j.toNat)) S)
  | _, _ => .bad
section
variable {X : Cx}
theorem noX_shlG (x y : U) (S : Sto) : noX (shlGU x y S) := by unfold shlGU; split <;> first | trivial | exact noX_guard trivial
theorem os_shlG : OpSim X (binaryOp .LShift) shlGU := by
  refine ⟨_, op_shlW, fun w x y v v' Q s rx ry h => ?_⟩
  unfold shlGU at h
  split at h
  · rename_i i j
    obtain ⟨hl, hz⟩ := guard_post h
    rw [Bool.and_eq_true, decide_eq_true_eq, decide_eq_true_eq] at hl
    cases rx; cases ry
    exact ⟨i, j, rfl, rfl, hl, OkE.here hz s (.int _)⟩
  · exact h.elim
end
end DL
set_option maxHeartbeats 4000000
namespace DL
open PySem PySem.Spec PyProof.Rows L2
def Mq (m : Nat) : Prop := m = 7 ∨ m = 15 ∨ m = 31 ∨ m = 63 ∨ m = 127
theorem cyq15 : cycOk 15 = true := by decide +kernel
theorem cyq63 : cycOk 63 = true := by decide +kernel
theorem Mq.cyc {m : Nat} (h : Mq m) : cycOk m = true := by
  rcases h with rfl | rfl | rfl | rfl | rfl
  · exact cyc7
  · exact cyq15
  · exact cyc31
  · exact cyq63
  · exact cyc127
theorem Mq.le {m : Nat} (h : Mq m) : m ≤ 127 := by rcases h with e | e | e | e | e <;> omega
theorem Mq.from0 {m j : Nat} (h : Mq m) (hj : j ≤ m) : ∃ k, k ≤ m ∧ lcgI m 0 k = j := by
  have c := h.cyc
  unfold cycOk at c
  rw [Bool.and_eq_true, beq_iff_eq, beq_iff_eq] at c
  have b : (metF m (m + 1) 0 0).testBit j = true := by
    rw [c.1, Nat.testBit_two_pow_sub_one]
    exact decide_eq_true (by omega)
  rcases metF_bit m j _ _ _ b with q | ⟨k, hk, e⟩
  · simp at q
  · exact ⟨k, by omega, e⟩
theorem Mq.all {m i j : Nat} (h : Mq m) (hi : i ≤ m) (hj : j ≤ m) : ∃ k, k ≤ m ∧ lcgI m i k = j := by
  have c := h.cyc
  unfold cycOk at c
  rw [Bool.and_eq_true, beq_iff_eq, beq_iff_eq] at c
  obtain ⟨a, ha, ea⟩ := h.from0 hi
  obtain ⟨b, hb, eb⟩ := h.from0 hj
  rcases Nat.lt_or_ge b a with q | q
  · refine ⟨m + 1 - a + b, by omega, ?_⟩
    rw [← ea, ← lcgI_add, show a + (m + 1 - a + b) = (m + 1) + b by omega, lcgI_add, c.2, eb]
  · refine ⟨b - a, by omega, ?_⟩
    rw [← ea, ← lcgI_add, show a + (b - a) = b by omega, eb]
theorem Mq.run {m : Nat} (hm : Mq m) (h : Int) {j : Nat} (hj : j ≤ m) : ∃ n, n ≤ m + 12 ∧ runI m (SetTable.bits h) n = j := by
  obtain ⟨k, hk, e⟩ := hm.all (runI_le m (SetTable.bits h) 12) hj
  exact ⟨12 + k, by omega, (runI_tail (bits_lt h) k).trans e⟩
theorem Mq.free {m : Nat} (hm : Mq m) (owner : Array (Option Nat)) (h : Int) {j : Nat} (hj : j ≤ m) (hf : oAt owner j = none) :
    ∃ K, SetTable.layClean.free m owner (SetTable.turns m) (SetTable.bits h % (m + 1)) (SetTable.bits h) = some (way m h K) ∧ oAt owner (way m h K) = none ∧ ∀ k, k < K → oAt owner (way m h k) ≠ none := by
  obtain ⟨n, hn, e⟩ := hm.run h hj
  have hw : way m h (off m (SetTable.bits h % (m + 1)) (SetTable.bits h) n) = j := by
    show (nth m (runAt m (SetTable.bits h % (m + 1)) (SetTable.bits h)) _).j = j
    rw [nth_off, itL_run]
    exact e
  obtain ⟨K, k1, k2, k3⟩ := st_least (p := fun k => oAt owner (way m h k) = none) _ (by rw [hw]; exact hf)
  refine ⟨K, free_spec m owner (SetTable.turns m) n _ _ K (by unfold SetTable.turns; omega) k1 (fun k hk => ?_) ?_, k2, k3⟩
  · cases z : oAt owner (nth m (runAt m (SetTable.bits h % (m + 1)) (SetTable.bits h)) k).j with
    | none => exact absurd z (k3 k hk)
    | some _ => rfl
  · exact Option.isNone_iff_eq_none.mpr k2
theorem owq_step {m : Nat} (hm : Mq m) {done : List Int} {owner : Array (Option Nat)} (W : Own m done owner) (hl : done.length ≤ m) (h : Int) :
    ∃ j, SetTable.layClean.free m owner (SetTable.turns m) (SetTable.bits h % (m + 1)) (SetTable.bits h) = some j ∧ Own m (done ++ [h]) (owner.setIfInBounds j (some done.length)) := by
  obtain ⟨ps, hps, hin⟩ := W.ps
  obtain ⟨j0, h0, hn0⟩ := st_missing ps (m + 1) (by omega)
  have hj0 : oAt owner j0 = none := Classical.byContradiction fun z => hn0 (hin j0 (Nat.le_of_lt_succ h0) z)
  obtain ⟨K, e1, e2, e3⟩ := hm.free owner h (Nat.le_of_lt_succ h0) hj0
  have hjm := wayLe m h K
  refine ⟨way m h K, e1, ?_⟩
  have self := oAt_set_self (some done.length) (show way m h K < owner.size by rw [W.sz]; omega)
  have grow : ∀ i, oAt owner i ≠ none → oAt (owner.setIfInBounds (way m h K) (some done.length)) i ≠ none := fun i hi => by
    by_cases c : i = way m h K
    · rw [c, self]; intro z; cases z
    · rw [oAt_set_ne _ c]; exact hi
  refine ⟨by rw [Array.size_setIfInBounds]; exact W.sz, fun j k hj e => ?_, fun k hk => ?_, way m h K :: ps, by simp [hps], fun j hj e => ?_⟩
  · by_cases c : j = way m h K
    · rw [c, self] at e
      cases e
      exact ⟨h, K, by rw [List.getElem?_append_right (Nat.le_refl _), Nat.sub_self]; rfl, c.symm, fun k' hk' => grow _ (e3 k' hk')⟩
    · rw [oAt_set_ne _ c] at e
      obtain ⟨h', K', a1, a2, a3⟩ := W.at_ j k hj e
      exact ⟨h', K', by rw [List.getElem?_append_left (List.getElem?_eq_some_iff.mp a1).1]; exact a1, a2, fun k' hk' => grow _ (a3 k' hk')⟩
  · rcases Nat.lt_or_ge k done.length with c | c
    · obtain ⟨j, hj, e⟩ := W.all k c
      exact ⟨j, hj, by rw [oAt_set_ne _ (fun z => by rw [z, e2] at e; cases e)]; exact e⟩
    · rw [List.length_append, List.length_singleton] at hk
      obtain rfl : k = done.length := by omega
      exact ⟨way m h K, hjm, self⟩
  · by_cases c : j = way m h K
    · rw [c]; exact List.mem_cons_self
    · rw [oAt_set_ne _ c] at e
      exact List.mem_cons_of_mem _ (hin j hj e)
theorem owq_fold {m : Nat} (hm : Mq m) : ∀ (rest done : List Int) (owner : Array (Option Nat)), Own m done owner → done.length + rest.length ≤ m →
    ∃ owner', rest.foldl (stepF m) (some (owner, done.length)) = some (owner', (done ++ rest).length) ∧ Own m (done ++ rest) owner'
  | [], done, owner, W, _ => ⟨owner, by simp, by simpa using W⟩
  | h :: rest, done, owner, W, hl => by
    rw [List.length_cons] at hl
    obtain ⟨j, e, W'⟩ := owq_step hm W (by omega) h
    have l1 : (done ++ [h]).length = done.length + 1 := by simp
    obtain ⟨owner', f, W2⟩ := owq_fold hm rest (done ++ [h]) _ W' (by omega)
    rw [l1] at f
    rw [List.append_assoc, List.singleton_append] at f W2
    exact ⟨owner', by rw [List.foldl_cons, stepF_some e]; exact f, W2⟩
theorem owq_all {m : Nat} (hm : Mq m) {hs : Array Int} (hn : hs.size ≤ m) : ∃ owner, SetTable.layClean m hs = some owner ∧ Own m hs.toList owner := by
  obtain ⟨owner, f, W⟩ := owq_fold hm hs.toList [] _ (Own.init m) (by simpa using hn)
  refine ⟨owner, ?_, W⟩
  rw [layClean_eq]
  exact congrArg (Option.map (·.1)) f
theorem laid_q {m : Nat} (hM : Mq m) (finger moves : Nat) (led plain : Bool) {hs : Array Int} (hn : hs.size ≤ m) :
    ∃ t' order, SetTable.laid m finger moves led plain hs = some (t', order) ∧ order.toList.Perm (List.range hs.size) ∧ Ris t'.place.toList ∧ t'.place.size = hs.size ∧ t'.dummies = #[] ∧ t'.mask = m ∧ t'.led = led := by
  obtain ⟨owner, e, W⟩ := owq_all hM hn
  obtain ⟨r1, r2⟩ := ris_live (fun j => owner.getD j none) (List.range (m + 1)) (by unfold Ris; exact List.pairwise_lt_range)
  have r1 : Ris ((liveOf m owner).map (·.1)) := r1
  have nd : ((liveOf m owner).map (·.1)).Nodup := r1.imp fun h => Nat.ne_of_lt h
  have inAll : ∀ k, k < hs.size → k ∈ (liveOf m owner).map (·.2) := fun k hk => by
    obtain ⟨j, b1, b2⟩ := W.all k (by simpa using hk)
    exact List.mem_map.mpr ⟨(j, k), (mem_live W.sz).2 ⟨b1, b2⟩, rfl⟩
  have hlen : (liveOf m owner).length = hs.size := by
    obtain ⟨ps, p1, p2⟩ := W.ps
    have a := nat_nodup_len _ ps nd fun x hx => by
      obtain ⟨⟨y, k⟩, hq, rfl⟩ := List.mem_map.mp hx
      obtain ⟨b1, b2⟩ := (mem_live W.sz).1 hq
      exact p2 y b1 (by rw [b2]; intro z; cases z)
    have b := nat_nodup_len (List.range hs.size) _ List.nodup_range fun k hk => inAll k (List.mem_range.mp hk)
    have hz : hs.toList.length = hs.size := rfl
    rw [List.length_map, p1, hz] at a
    rw [List.length_map, List.length_range] at b
    omega
  refine ⟨{ mask := m, place := ((liveOf m owner).map (·.1)).toArray, dummies := #[], finger, led, moves, plain }, ((liveOf m owner).map (·.2)).toArray, by unfold SetTable.laid; rw [e]; rfl, perm_range hs.size _ (by simpa using hlen) (by simpa using inAll), r1, ?_, rfl, rfl, rfl⟩
  show ((liveOf m owner).map (·.1)).toArray.size = _
  simpa using hlen
theorem order_perm {es : Array (Int × Value)} {order : Array Nat} (h : order.toList.Perm (List.range es.size)) : (order.filterMap (es[·]?)).toList.Perm es.toList := by
  rw [Array.toList_filterMap]
  refine (h.filterMap _).trans ?_
  have : (List.range es.size).filterMap (es[·]?) = es.toList := by
    have e : ∀ (l : List (Int × Value)), (List.range l.length).filterMap (fun i => l[i]?) = l := fun l => by
      induction l with
      | nil => rfl
      | cons a l ih =>
        rw [List.length_cons, List.range_succ_eq_map, List.filterMap_cons]
        show a :: _ = _
        rw [List.filterMap_map]
        congr 1
    have e2 := e es.toList
    rw [Array.length_toList] at e2
    rw [show (fun i => es[i]?) = (fun i => es.toList[i]?) from funext fun i => (Array.getElem?_toList ..).symm]
    exact e2
  rw [this]
def maskFor (n : Nat) : Nat := SetTable.sizeAbove (n * 2) - 1
theorem mask_all : ∀ n : Nat, n < 61 → (5 ≤ n → (maskFor n = 15 ∨ maskFor n = 31 ∨ maskFor n = 63 ∨ maskFor n = 127) ∧ n ≤ maskFor n ∧ SetTable.sizeAbove (n * 2) ≤ 1000) := by decide +kernel
theorem mask_q {n : Nat} (h1 : 5 ≤ n) (h : n ≤ 60) : Mq (maskFor n) ∧ n ≤ maskFor n ∧ SetTable.sizeAbove (n * 2) ≤ 1000 := by
  obtain ⟨a, b, c⟩ := mask_all n (by omega) h1
  exact ⟨.inr a, b, c⟩
theorem mask_all0 : ∀ n : Nat, n < 61 → ((maskFor n = 7 ∨ maskFor n = 15 ∨ maskFor n = 31 ∨ maskFor n = 63 ∨ maskFor n = 127) ∧ n ≤ maskFor n ∧ SetTable.sizeAbove (n * 2) ≤ 1000) := by decide +kernel
theorem mask_q0 {n : Nat} (h : n ≤ 60) : Mq (maskFor n) ∧ n ≤ maskFor n ∧ SetTable.sizeAbove (n * 2) ≤ 1000 := mask_all0 n (by omega)
end DL
set_option maxHeartbeats 4000000
namespace DL
open PySem PySem.Spec PyProof.Rows L2
theorem setMerge_eq (s o : Addr) (each : Sem Unit) : setMerge s o each = (do
    if s == o then return
    let (eo, epoch, to) ← setState o
    if eo.isEmpty then return
    setRoomFor s eo.size
    let (_, _, ts) ← setState s
    match ts.road to with
    | .slotForSlot => storeSet s eo { to with finger := ts.finger, led := ts.led && to.led, moves := ts.moves, plain := ts.plain && to.plain }
    | .clean =>
      let (es, t) ← (do
        let some (t, order) := (SetTable.laid ts.mask ts.finger ts.moves (led := ts.led && to.led) (plain := ts.plain && to.plain) (eo.map (·.1))) | unsupported "internal:set-table-without-room"
        let es' := order.filterMap (eo[·]?)
        if es'.size != eo.size then unsupported "internal:set-table-lost-an-element"
        pure (es', t) : Sem (Array (Int × Value) × SetTable))
      storeSet s es t
    | .oneByOne =>
      for (h, x) in ← setWalkUnseen o [s] (some s) do
        let _ ← holding [x] (setAddHashed s x h)
        each
        if (← setState o).2.1 != epoch then unsupported "set.changed-during-merge") := by rfl
section
variable {P : Program} {w : World} {A : Around} {E : Value → Shared → Prop} {s : Shared} {a r : Addr} {S : Str → Bool} {n : Nat}
theorem SetS.upto {h : Heap} {a : Addr} {S : Str → Bool} {o : Obj} {es es2 : Array (Int × Value)} {ep2 : Nat} {t2 : SetTable} (g : ∀ e ∈ es.toList, TxtE P w e) (nd : (es.toList.map txtOf).Nodup) (m : ∀ k, S k = true ↔ k ∈ es.toList.map txtOf) (hb : es.size < scanBound)
    (p : es2.toList.Perm es.toList) (ho : h.get? a = some o) (hex : o.ExactSet) (hd : o.data = .set es2 ep2 t2) (hf : t2.fits es2.size = true) (hr : Ris t2.place.toList) (hl : w.params.followText "set-order" = true ∨ t2.led = true) : SetS P w h a S es.size := by
  have sz : es2.size = es.size := by rw [← Array.length_toList, p.length_eq, Array.length_toList]
  exact ⟨o, es2, ep2, t2, ho, hex, hd, fun e he => g e (p.mem_iff.mp he), (p.map txtOf).nodup_iff.mpr nd, fun k => (m k).trans (p.map txtOf).mem_iff.symm, by rw [sz]; exact hb, hf, sz, hr, hl⟩
theorem relay_q {o : Obj} {es : Array (Int × Value)} {ep : Nat} {t : SetTable} (ho : s.heap.get? a = some o) (hd : o.data = .set es ep t) (hf : t.fits es.size = true) {wanted : Nat} (hM : Mq (SetTable.sizeAbove wanted - 1)) (hn : es.size ≤ SetTable.sizeAbove wanted - 1) (hw : SetTable.sizeAbove wanted ≤ 1000) {Q : Unit → Shared → Prop}
    (h : ∀ h' es' t', Heap.SameBut a s.heap h' → h'.get? a = some { o with data := .set es' (ep + 1) t' } → es'.toList.Perm es.toList → t'.fits es'.size = true → Ris t'.place.toList → t'.led = t.led → t'.dummies = #[] → t'.mask = SetTable.sizeAbove wanted - 1 → Q () { s with heap := h' }) :
    wpAny (model P w) A (setRelay a wanted) Q E s := by
  obtain ⟨t', order, e, hp, hr, hs, hdm, hm, hl⟩ := laid_q hM t.finger (t.movedTo (SetTable.sizeAbove wanted - 1)) t.led t.plain (hs := es.map (·.1)) (by rw [Array.size_map]; exact hn)
  rw [Array.size_map] at hp hs
  have hperm := order_perm hp
  have hs2 : (order.filterMap (es[·]?)).size = es.size := by rw [← Array.length_toList, hperm.length_eq, Array.length_toList]
  have hfit : t'.fits (order.filterMap (es[·]?)).size = true := by
    unfold SetTable.fits SetTable.fill
    rw [hdm, hs2, hs, hm, Bool.and_eq_true, beq_iff_eq, decide_eq_true_eq]
    exact ⟨rfl, hn⟩
  rw [setRelay_eq]
  refine wpAny_bind (wpAny_setState_of ho hd hf ?_)
  dsimp only
  refine wp_if_neg (by rw [sizeLine_eq]; omega) ?_
  try refine wpAny_bind (wpAny_pure ?_)
  have e' : t.relaid (es.map (·.1)) wanted = some (t', order) := e
  rw [e']
  dsimp only
  refine wpAny_bind ?_
  refine wp_if_neg (by rw [hs2]; simp) ?_
  try refine wpAny_bind (wpAny_pure ?_)
  refine wpAny_pure ?_
  dsimp only
  have hle := hM.le
  refine wpAny_storeSet_of ho hd ?_ (by rw [hs2, sizeLine_eq]; omega)
  exact h _ _ _ (Heap.SameBut.update ..) (store_at ho hd) hperm hfit hr hl hdm hm
theorem merge_new {each : Sem Unit} (R : SetS P w s.heap a S n) (hr : s.heap.get? r = some (newS w)) (hra : r ≠ a) (hn : n ≤ 60) {Q : Unit → Shared → Prop}
    (h : ∀ h', Heap.SameBut r s.heap h' → SetS P w h' r S n → (n = 0 → h'.get? r = some (newS w)) → Q () { s with heap := h' }) : wpAny (model P w) A (setMerge r a each) Q E s := by
  obtain ⟨o, es, ep, t, ho, hex, hd, g, nd, hm, hb, hf, hnn, hri, hl⟩ := R
  rw [setMerge_eq]
  refine wp_if_neg (by simpa using hra) ?_
  try refine wpAny_bind (wpAny_pure ?_)
  refine wpAny_bind (wpAny_setState_of ho hd hf ?_)
  dsimp only
  by_cases he : es.isEmpty = true
  · refine wp_if_pos he ?_
    have e0 : es = #[] := Array.isEmpty_iff.mp he
    subst e0
    refine wpAny_pure (h s.heap (Heap.SameBut.refl _ _) ?_ fun _ => hr)
    have hn0 : n = 0 := hnn.symm
    subst hn0
    exact ⟨_, #[], 0, _, hr, ⟨rfl, rfl, rfl⟩, rfl, (fun e he => by simp at he), (by simp), hm, (by decide), (by rfl), rfl, List.Pairwise.nil, by
      cases hq : w.params.followText "set-order"
      · exact .inr rfl
      · exact .inl rfl⟩
  refine wp_if_neg he ?_
  try refine wpAny_bind (wpAny_pure ?_)
  have fresh_fits : (SetTable.fresh 0 0 (!w.params.followText "set-order")).fits (#[] : Array (Int × Value)).size = true := rfl
  have hpos : 0 < es.size := by
    rcases Nat.eq_zero_or_pos es.size with z | z
    · exact absurd (by rw [Array.isEmpty_iff, Array.eq_empty_of_size_eq_zero z]) he
    · exact z
  have lled : ∀ b : Bool, b = (!w.params.followText "set-order") → (w.params.followText "set-order" = true ∨ (b && t.led) = true) := fun b eb => by
    cases hq : w.params.followText "set-order"
    · rw [hq] at hl eb
      rcases hl with z | z
      · cases z
      · exact .inr (by rw [eb, z]; rfl)
    · exact .inl rfl
  -- the rest, whatever the table of the new set is
  have tail : ∀ (s1 : Shared) (o1 : Obj) (ep1 : Nat) (ts : SetTable), s1.heap.get? r = some o1 → o1.ExactSet → o1.data = .set #[] ep1 ts → ts.place = #[] → ts.dummies = #[] → Mq ts.mask → es.size ≤ ts.mask → ts.led = (!w.params.followText "set-order") →
      (∀ h', Heap.SameBut r s1.heap h' → SetS P w h' r S n → Q () { s1 with heap := h' }) →
      wpAny (model P w) A (do
        let (_, _, ts) ← setState r
        match ts.road t with
        | .slotForSlot => storeSet r es { t with finger := ts.finger, led := ts.led && t.led, moves := ts.moves, plain := ts.plain && t.plain }
        | .clean =>
          let (es, t) ← (do
            let some (t, order) := (SetTable.laid ts.mask ts.finger ts.moves (led := ts.led && t.led) (plain := ts.plain && t.plain) (es.map (·.1))) | unsupported "internal:set-table-without-room"
            let es' := order.filterMap (es[·]?)
            if es'.size != es.size then unsupported "internal:set-table-lost-an-element"
            pure (es', t) : Sem (Array (Int × Value) × SetTable))
          storeSet r es t
        | .oneByOne =>
          for (h, x) in ← setWalkUnseen a [r] (some r) do
            let _ ← holding [x] (setAddHashed r x h)
            each
            if (← setState a).2.1 != ep then unsupported "set.changed-during-merge") Q E s1 := by
    intro s1 o1 ep1 ts h1 x1 d1 hp hdm hM hle hled hq
    have hfit : ts.fits (#[] : Array (Int × Value)).size = true := by
      unfold SetTable.fits SetTable.fill
      rw [hp, hdm]
      rfl
    refine wpAny_bind (wpAny_setState_of h1 d1 hfit ?_)
    dsimp only
    have hfill : (ts.fill != 0) = false := by unfold SetTable.fill; rw [hp, hdm]; rfl
    have hroad : ts.road t = if (ts.mask == t.mask && t.dummies.isEmpty) = true then SetTable.Road.slotForSlot else SetTable.Road.clean := by
      unfold SetTable.road
      rw [hfill]
      simp only [Bool.false_eq_true, if_false]
    have hle2 := hM.le
    rw [hroad]
    by_cases qq : (ts.mask == t.mask && t.dummies.isEmpty) = true
    · rw [if_pos qq]
      dsimp only
      refine wpAny_storeSet_of h1 d1 ?_ (by rw [sizeLine_eq]; omega)
      refine hq _ (Heap.SameBut.update ..) ?_
      rw [← hnn]
      exact SetS.upto g nd hm hb (List.Perm.refl _) (store_at h1 d1) ⟨x1.1, x1.2.1, x1.2.2⟩ rfl hf hri (lled _ hled)
    · rw [if_neg qq]
      dsimp only
      obtain ⟨t', order, e, hp', hr', hs', hdm', hm', hl'⟩ := laid_q hM ts.finger ts.moves (ts.led && t.led) (ts.plain && t.plain) (hs := es.map (·.1)) (by rw [Array.size_map]; exact hle)
      rw [Array.size_map] at hp' hs'
      have hperm := order_perm hp'
      have hs2 : (order.filterMap (es[·]?)).size = es.size := by rw [← Array.length_toList, hperm.length_eq, Array.length_toList]
      rw [e]
      dsimp only
      refine wpAny_bind ?_
      refine wp_if_neg (by rw [hs2]; simp) ?_
      try refine wpAny_bind (wpAny_pure ?_)
      refine wpAny_pure ?_
      dsimp only
      refine wpAny_storeSet_of h1 d1 ?_ (by rw [hs2, sizeLine_eq]; omega)
      refine hq _ (Heap.SameBut.update ..) ?_
      rw [← hnn]
      refine SetS.upto g nd hm hb hperm (store_at h1 d1) ⟨x1.1, x1.2.1, x1.2.2⟩ rfl ?_ hr' (by rw [hl']; exact lled _ hled)
      unfold SetTable.fits SetTable.fill
      rw [hdm', hs2, hs', hm', Bool.and_eq_true, beq_iff_eq, decide_eq_true_eq]
      exact ⟨rfl, hle⟩
  refine wpAny_bind ?_
  unfold setRoomFor
  refine wpAny_bind (wpAny_setState_of hr rfl fresh_fits ?_)
  dsimp only
  by_cases h5 : 5 ≤ es.size
  · have hroom : (SetTable.fresh 0 0 (!w.params.followText "set-order")).roomFor es.size = some (es.size * 2) := by
      unfold SetTable.roomFor SetTable.fresh SetTable.fill
      show (if (0 + 0 + es.size) * 5 ≥ 7 * 3 then some ((0 + es.size) * 2) else none) = _
      rw [if_pos (by omega), Nat.zero_add]
    rw [hroom]
    dsimp only
    obtain ⟨m1, m2, m3⟩ := mask_q h5 (by omega)
    refine relay_q hr rfl fresh_fits (wanted := es.size * 2) m1 (by show 0 ≤ _; omega) m3 fun h' es' t' sb he' hp' hf' hr' hl' hd' hm' => ?_
    have e0 : es' = #[] := by
      have := hp'.length_eq
      exact Array.eq_empty_of_size_eq_zero (by simpa using this)
    subst e0
    have hpl : t'.place = #[] := by
      unfold SetTable.fits at hf'
      rw [Bool.and_eq_true, beq_iff_eq] at hf'
      exact Array.eq_empty_of_size_eq_zero hf'.1
    exact tail { s with heap := h' } _ _ t' he' ⟨rfl, rfl, rfl⟩ rfl hpl hd' (by rw [hm']; exact m1) (by rw [hm']; exact m2) hl' fun h2 sb2 R2 => h h2 (sb.trans sb2) R2 fun z => by omega
  · have hroom : (SetTable.fresh 0 0 (!w.params.followText "set-order")).roomFor es.size = none := by
      unfold SetTable.roomFor SetTable.fresh SetTable.fill
      show (if (0 + 0 + es.size) * 5 ≥ 7 * 3 then some ((0 + es.size) * 2) else none) = _
      rw [if_neg (by omega)]
    rw [hroom]
    dsimp only
    refine wpAny_pure ?_
    exact tail s _ _ _ hr ⟨rfl, rfl, rfl⟩ rfl rfl rfl (.inl rfl) (by show es.size ≤ 7; omega) rfl fun h2 sb2 R2 => h h2 sb2 R2 fun z => by omega
end
end DL
set_option maxHeartbeats 4000000
namespace DL
open PySem PySem.Spec PyProof.Rows L2
section
variable {P : Program} {w : World} {A : Around} {E : Value → Shared → Prop} {s : Shared} {a r : Addr} {S S1 : Str → Bool} {n n1 : Nat}
theorem walk_txt {o : Obj} {es : Array (Int × Value)} {ep : Nat} {t : SetTable} (ho : s.heap.get? a = some o) (hd : o.data = .set es ep t) (hf : t.fits es.size = true) (hl : w.params.followText "set-order" = true ∨ t.led = true) {Q : Array (Int × Value) → Shared → Prop}
    (h : ∀ xs d, xs.toList.Perm es.toList → Q xs { s with drawn := d }) : wpAny (model P w) A (setWalk a) Q E s := by
  unfold setWalk
  refine wpAny_bind (wpAny_setState_of ho hd hf ?_)
  dsimp only
  refine wpAny_bind (wpAny_byText ?_)
  cases hq : w.params.followText "set-order"
  · rw [hq] at hl
    have hl := hl.resolve_left Bool.false_ne_true
    refine wp_if_neg Bool.false_ne_true ?_
    try refine wpAny_bind (wpAny_pure ?_)
    by_cases hz : (!t.plain && decide (es.size > 1)) = true
    · refine wp_if_pos hz ?_
      refine wpAny_bind (drawOrder_at _ _ _ _ (by rw [Array.length_toList]; exact Nat.le_refl _) fun ys d p => ?_)
      exact wpAny_pure (h ys.toArray d p)
    · refine wp_if_neg hz ?_
      try refine wpAny_bind (wpAny_pure ?_)
      refine wpAny_bind (wpAny_of_eq (a := ()) ?_ ?_)
      · show (if (!t.led && decide (es.size > 1)) = true then unsupported "set:maker-not-led" else pure ()) = pure ()
        rw [hl] <;> rfl
      · exact wpAny_pure (h es s.drawn (List.Perm.refl _))
  · refine wp_if_pos rfl ?_
    refine wpAny_bind (wpAny_askSetting ?_)
    exact wpAny_pure (h _ s.drawn (pick_perm _ _))
theorem quiet_txt {o o2 : Obj} {es es2 : Array (Int × Value)} {ep ep2 : Nat} {t t2 : SetTable} (ho : s.heap.get? a = some o) (hd : o.data = .set es ep t) (hf : t.fits es.size = true) (g : ∀ e ∈ es.toList, TxtE P w e)
    (ho2 : s.heap.get? r = some o2) (hd2 : o2.data = .set es2 ep2 t2) (hf2 : t2.fits es2.size = true) (g2 : ∀ e ∈ es2.toList, TxtE P w e) {Q : Bool → Shared → Prop} (h : Q true s) :
    wpAny (model P w) A (setsQuiet [a, r]) Q E s := by
  unfold setsQuiet setEntries
  refine wpAny_bind ?_
  refine wpAny_forIn_list _ (fun rest b s' => (∀ x ∈ rest, x = a ∨ x = r) ∧ b = (none, ()) ∧ s' = s) _ ?_ ?_ _ _ ⟨fun x hx => by simpa using hx, rfl, rfl⟩
  · rintro x rest b s' ⟨hx, rfl, rfl⟩
    obtain ⟨ox, esx, epx, tx, hox, hdx, hfx, gx⟩ : ∃ ox esx epx tx, s'.heap.get? x = some ox ∧ ox.data = .set esx epx tx ∧ tx.fits esx.size = true ∧ ∀ e ∈ esx.toList, TxtE P w e := by
      rcases hx x List.mem_cons_self with rfl | rfl
      · exact ⟨o, es, ep, t, ho, hd, hf, g⟩
      · exact ⟨o2, es2, ep2, t2, ho2, hd2, hf2, g2⟩
    refine wpAny_bind (wpAny_bind (wpAny_setState_of hox hdx hfx (wpAny_pure ?_)))
    dsimp only
    refine wpAny_bind ?_
    refine MeetsSeq2.wpAny_forIn_array _ (fun rest b s2 => (∀ e ∈ rest, TxtE P w e) ∧ b = (none, ()) ∧ s2 = s') _ ?_ ?_ _ _ ⟨gx, rfl, rfl⟩
    · rintro ⟨hh, v⟩ rest2 b2 s2 ⟨hy, rfl, rfl⟩
      obtain ⟨k, tk, e1, _⟩ := hy _ List.mem_cons_self
      have e1 : v = Value.str k tk := e1
      subst e1
      exact wpAny_pure ⟨fun e he => hy e (List.mem_cons_of_mem _ he), rfl, rfl⟩
    · rintro b2 s2 ⟨_, rfl, rfl⟩
      exact wpAny_pure ⟨fun y hy => hx y (List.mem_cons_of_mem _ hy), rfl, rfl⟩
  · rintro b s' ⟨_, rfl, rfl⟩
    exact wpAny_pure h
theorem unseen_txt (R : SetS P w s.heap a S n) {o : Obj} {es : Array (Int × Value)} {ep : Nat} {t : SetTable} (ho : s.heap.get? a = some o) (hd : o.data = .set es ep t) (R1 : SetS P w s.heap r S1 n1) (hra : r ≠ a) {Q : Array (Int × Value) → Shared → Prop}
    (h : ∀ xs h' d, xs.toList.Perm es.toList → Heap.SameBut r s.heap h' → SetS P w h' r S1 n1 → Q xs { s with heap := h', drawn := d }) : wpAny (model P w) A (setWalkUnseen a [r] (some r)) Q E s := by
  obtain ⟨o', es', ep', t', ho', hex, hd', g, nd, hm, hb, hf, hnn, hri, hl⟩ := R
  rw [ho] at ho'
  cases ho'
  rw [hd] at hd'
  cases hd'
  have R1' := R1
  obtain ⟨o2, es2, ep2, t2, ho2, hex2, hd2, g2, nd2, hm2, hb2, hf2, hnn2, hri2, hl2⟩ := R1
  unfold setWalkUnseen
  refine wpAny_bind (wpAny_setState_of ho hd hf ?_)
  dsimp only
  refine wpAny_bind (wpAny_byText ?_)
  by_cases hz : (w.params.followText "set-order" || t.led && t.plain || decide (es.size ≤ 1)) = true
  · refine wp_if_pos hz ?_
    exact walk_txt ho hd hf hl fun xs d p => h xs s.heap d p (Heap.SameBut.refl _ _) R1'
  refine wp_if_neg hz ?_
  try refine wpAny_bind (wpAny_pure ?_)
  refine wpAny_bind (quiet_txt ho hd hf g ho2 hd2 hf2 g2 ?_)
  refine wp_if_neg (by simp) ?_
  try refine wpAny_bind (wpAny_pure ?_)
  refine wpAny_bind (wpAny_rule ?_)
  refine wpAny_bind (wpAny_setState_of ho2 hd2 hf2 ?_)
  dsimp only
  have hq : w.params.followText "set-order" = false := by
    cases e : w.params.followText "set-order" with
    | false => rfl
    | true => rw [e] at hz; simp at hz
  have htl : t.led = true := hl.resolve_left (by rw [hq]; exact Bool.false_ne_true)
  by_cases hy : (t2.led && !t.led || t2.plain && !t.plain) = true
  · refine wp_if_pos hy ?_
    refine wpAny_bind ?_
    refine wpAny_storeSet_of ho2 hd2 ?_ (by have : scanBound = 4096 := rfl; rw [sizeLine_eq]; omega)
    refine wpAny_pure (h es _ s.drawn (List.Perm.refl _) (Heap.SameBut.update ..) ?_)
    rw [← hnn2]
    exact SetS.upto g2 nd2 hm2 hb2 (List.Perm.refl _) (store_at ho2 hd2) ⟨hex2.1, hex2.2.1, hex2.2.2⟩ rfl hf2 hri2 (hl2.imp id fun z => by show (t2.led && t.led) = true; rw [z, htl]; rfl)
  · refine wp_if_neg hy ?_
    exact wpAny_pure ((h es s.heap s.drawn (List.Perm.refl _) (Heap.SameBut.refl _ _) R1'))
theorem merge_more {each : Sem Unit} (R : SetS P w s.heap a S n) (R1 : SetS P w s.heap r S1 n1) (hra : r ≠ a) (hn : n1 + n ≤ 60) (h1 : 0 < n1)
    (heach : ∀ (s' : Shared) (Q' : Unit → Shared → Prop), s'.heap.get? a = s.heap.get? a → Q' () s' → wpAny (model P w) A each Q' E s') {Q : Unit → Shared → Prop}
    (h : ∀ h' d n', Heap.SameBut r s.heap h' → n' ≤ n1 + n → SetS P w h' r (fun k => S1 k || S k) n' → Q () { s with heap := h', drawn := d }) : wpAny (model P w) A (setMerge r a each) Q E s := by
  have R0 := R
  have R10 := R1
  obtain ⟨o, es, ep, t, ho, hex, hd, g, nd, hm, hb, hf, hnn, hri, hl⟩ := R
  obtain ⟨o1, es1, ep1, t1, ho1, hex1, hd1, g1, nd1, hm1, hb1, hf1, hnn1, hri1, hl1⟩ := R1
  rw [setMerge_eq]
  refine wp_if_neg (by simpa using hra) ?_
  try refine wpAny_bind (wpAny_pure ?_)
  refine wpAny_bind (wpAny_setState_of ho hd hf ?_)
  dsimp only
  by_cases he : es.isEmpty = true
  · refine wp_if_pos he ?_
    have e0 : es = #[] := Array.isEmpty_iff.mp he
    subst e0
    refine wpAny_pure (h s.heap s.drawn n1 (Heap.SameBut.refl _ _) (by omega) (R10.congr fun k => ?_))
    have : S k = false := by
      cases z : S k with
      | false => rfl
      | true => have := (hm k).1 z; simp at this
    rw [this, Bool.or_false]
  refine wp_if_neg he ?_
  try refine wpAny_bind (wpAny_pure ?_)
  have hz : (fun (x : Nat) => x) = fun x => x := rfl
  -- the loop, whatever the table
  have tail : ∀ (s1 : Shared), s1.heap.get? a = s.heap.get? a → SetS P w s1.heap r S1 n1 →
      (∀ h' d n', Heap.SameBut r s1.heap h' → n' ≤ n1 + n → SetS P w h' r (fun k => S1 k || S k) n' → Q () { s1 with heap := h', drawn := d }) →
      wpAny (model P w) A (do
        let (_, _, ts) ← setState r
        match ts.road t with
        | .slotForSlot => storeSet r es { t with finger := ts.finger, led := ts.led && t.led, moves := ts.moves, plain := ts.plain && t.plain }
        | .clean =>
          let (es, t) ← (do
            let some (t, order) := (SetTable.laid ts.mask ts.finger ts.moves (led := ts.led && t.led) (plain := ts.plain && t.plain) (es.map (·.1))) | unsupported "internal:set-table-without-room"
            let es' := order.filterMap (es[·]?)
            if es'.size != es.size then unsupported "internal:set-table-lost-an-element"
            pure (es', t) : Sem (Array (Int × Value) × SetTable))
          storeSet r es t
        | .oneByOne =>
          for (h, x) in ← setWalkUnseen a [r] (some r) do
            let _ ← holding [x] (setAddHashed r x h)
            each
            if (← setState a).2.1 != ep then unsupported "set.changed-during-merge") Q E s1 := by
    intro s1 hsa Rr hq
    have Rr0 := Rr
    obtain ⟨or, er, epr, tr, hor, hexr, hdr, gr, ndr, hmr, hbr, hfr, hnr, hrir, hlr⟩ := Rr
    have hoa : s1.heap.get? a = some o := by rw [hsa]; exact ho
    refine wpAny_bind (wpAny_setState_of hor hdr hfr ?_)
    dsimp only
    have hfill : (tr.fill != 0) = true := by
      unfold SetTable.fits at hfr
      rw [Bool.and_eq_true, beq_iff_eq] at hfr
      unfold SetTable.fill
      rw [hfr.1, bne_iff_ne]
      omega
    have hroad : tr.road t = .oneByOne := by unfold SetTable.road; rw [if_pos hfill]
    rw [hroad]
    dsimp only
    have Ra : SetS P w s1.heap a S n := ⟨o, es, ep, t, hoa, hex, hd, g, nd, hm, hb, hf, hnn, hri, hl⟩
    refine wpAny_bind (unseen_txt Ra hoa hd Rr0 hra fun xs h2 d2 px sb2 R2 => ?_)
    have hxl : xs.toList.length = n := by rw [px.length_eq, Array.length_toList]; exact hnn
    refine wpAny_bind ?_
    refine MeetsSeq2.wpAny_forIn_array _ (fun rest _ s' => ∃ (done : List (Int × Value)) (h' : Heap) (c : Nat), xs.toList = done ++ rest ∧ s' = { s1 with heap := h', drawn := d2 } ∧ Heap.SameBut r s1.heap h' ∧ c ≤ n1 + done.length ∧ SetS P w h' r (fun k => S1 k || decide (k ∈ done.map txtOf)) c) _ ?_ ?_ _ _ ⟨[], h2, n1, rfl, rfl, sb2, Nat.le_refl _, R2.congr fun k => by simp⟩
    · rintro ⟨hh, v⟩ rest b s' ⟨done, h', c, ex, rfl, sb, hc, Rc⟩
      have hmem : (hh, v) ∈ es.toList := px.mem_iff.mp (by rw [ex]; simp)
      obtain ⟨k, tk, e1, e2⟩ := g _ hmem
      have e1 : v = Value.str k tk := e1
      have e2 : hh = (strKind P w).hash k := e2
      subst e1 e2
      have hdl : done.length + 1 ≤ n := by
        have := congrArg List.length ex
        rw [hxl, List.length_append, List.length_cons] at this
        omega
      have hsc : scanBound = 4096 := rfl
      refine wpAny_bind (wpAny_holding (ss_add (s := { s1 with heap := h', drawn := d2 }) Rc (by omega) fun h3 sb3 R3 => ?_))
      have sb4 := sb.trans sb3
      have ha3 : h3.get? a = some o := (sb4.2 a (Ne.symm hra)).trans hoa
      refine wpAny_bind (heach _ _ (ha3.trans (ho.symm)) ?_)
      refine wpAny_bind (wpAny_setState_of ha3 hd hf ?_)
      refine wp_if_neg (by simp) ?_
      try refine wpAny_bind (wpAny_pure ?_)
      refine wpAny_pure ⟨done ++ [((strKind P w).hash k, Value.str k tk)], h3, _, by rw [ex, List.append_assoc]; rfl, rfl, sb4, ?_, R3.congr fun j => ?_⟩
      · rw [List.length_append, List.length_singleton]
        split <;> omega
      · have et : txtOf ((strKind P w).hash k, Value.str k tk) = k := rfl
        rw [List.map_append, List.map_singleton, et]
        by_cases q1 : j ∈ done.map txtOf <;> by_cases q2 : j = k <;> simp [q1, q2]
    · rintro b s' ⟨done, h', c, ex, rfl, sb, hc, Rc⟩
      rw [List.append_nil] at ex
      refine wpAny_pure (hq h' d2 c sb (by rw [← hxl, ex]; exact hc) (Rc.congr fun k => ?_))
      have : decide (k ∈ done.map txtOf) = S k := by
        rw [← ex]
        by_cases q : k ∈ xs.toList.map txtOf
        · rw [decide_eq_true q]
          exact ((hm k).2 ((px.map txtOf).mem_iff.mp q)).symm
        · rw [decide_eq_false q]
          cases z : S k with
          | false => rfl
          | true => exact absurd ((px.map txtOf).mem_iff.mpr ((hm k).1 z)) q
      rw [this]
  refine wpAny_bind ?_
  unfold setRoomFor
  refine wpAny_bind (wpAny_setState_of ho1 hd1 hf1 ?_)
  dsimp only
  have hps : t1.place.size = es1.size := by
    unfold SetTable.fits at hf1
    rw [Bool.and_eq_true, beq_iff_eq] at hf1
    exact hf1.1
  have hpos : 0 < es.size := by
    rcases Nat.eq_zero_or_pos es.size with z | z
    · exact absurd (by rw [Array.isEmpty_iff, Array.eq_empty_of_size_eq_zero z]) he
    · exact z
  cases hroom : t1.roomFor es.size with
  | none =>
    dsimp only
    exact wpAny_pure (tail s rfl R10 h)
  | some wanted =>
    dsimp only
    have hw : wanted = (es1.size + es.size) * 2 := by
      unfold SetTable.roomFor at hroom
      split at hroom
      · rw [hps] at hroom; exact (Option.some.inj hroom).symm
      · cases hroom
    subst hw
    obtain ⟨m1, m2, m3⟩ := mask_q0 (n := es1.size + es.size) (by omega)
    refine relay_q ho1 hd1 hf1 m1 (Nat.le_trans (Nat.le_add_right _ _) m2) m3 fun h' es' t' sb he' hp' hf' hr' hl' hd' hm' => ?_
    refine tail { s with heap := h' } (sb.2 a (Ne.symm hra)) ?_ fun h2 d2 n2 sb2 hn2 R2 => h h2 d2 n2 (sb.trans sb2) hn2 R2
    rw [← hnn1]
    exact SetS.upto g1 nd1 hm1 hb1 hp' he' ⟨hex1.1, hex1.2.1, hex1.2.2⟩ rfl hf' hr' (by rw [hl']; exact hl1)
end
end DL
set_option maxHeartbeats 4000000
namespace DL
open PySem PySem.Spec PyProof.Rows L2
open Builtin.Frozenset in
theorem or_eq (args : Args) : Builtin.«frozenset.__or__» args = (do
    let (self, other) ← slot1 "__or__" args
    let (l, r) := if false then (other, self) else (self, other)
    if !(← isAnySet l <&&> isAnySet r) then rule s!"frozenset.{"__or__"}.declined"; return ← ret .notImplemented
    ret (← (fun (id : String) (l : Addr) (r : Value) => (do
      let result ← copyOf l
      if r != .ref l then holding [result] (updateFrom id (← addrOf result) r)
      return result : Sem Value)) s!"frozenset.{"__or__"}" (← addrOf l) r)) := by rfl
theorem entry_set_or : entryFor table "set.__or__" = some Builtin.«frozenset.__or__» :=
  entryFor_alias (id' := "frozenset.__or__") (by kernel_rfl) rfl (by decide +kernel) (by kernel_rfl)
section
variable {P : Program} {w : World} {A : Around} {E : Value → Shared → Prop} {s : Shared} {a b r : Addr} {S1 S2 : Str → Bool} {n1 n2 : Nat}
theorem SetS.typeIs (R : SetS P w s.heap a S1 n1) : s.TypeIs (.ref a) "set" := by
  obtain ⟨o, es, ep, t, ho, hex, _⟩ := R
  exact ⟨o, ho, hex.1⟩
theorem sub_set : isSubtype (.type "set") (.type "set") = pure true := by rw [isSubtype_type]; kernel_rfl
theorem any_set (R : SetS P w s.heap a S1 n1) {Q : Bool → Shared → Prop} (h : Q true s) : wpAny (model P w) A (Builtin.Frozenset.isAnySet (.ref a)) Q E s := by
  unfold Builtin.Frozenset.isAnySet
  refine wpAny_bind (wpAny_isInstance R.typeIs sub_set ?_)
  exact wpAny_pure h
theorem unch (R : SetS P w s.heap a S1 n1) {was : Nat} {id : String} (hw : ∃ o es t, s.heap.get? a = some o ∧ o.data = .set es was t) (s' : Shared) (Q' : Unit → Shared → Prop) (e : s'.heap.get? a = s.heap.get? a) (h : Q' () s') : wpAny (model P w) A (Builtin.Frozenset.unchanged id a was) Q' E s' := by
  obtain ⟨o, es, ep, t, ho, hex, hd, g, nd, hm, hb, hf, _⟩ := R
  obtain ⟨o2, es2, t2, ho2, hd2⟩ := hw
  rw [ho] at ho2
  cases ho2
  rw [hd] at hd2
  cases hd2
  unfold Builtin.Frozenset.unchanged
  refine wpAny_bind (wpAny_setEpoch_of (e.trans ho) hd hf ?_)
  refine wp_if_neg (by simp) ?_
  exact wpAny_pure h
theorem or_txt (Ra : SetS P w s.heap a S1 n1) (Rb : SetS P w s.heap b S2 n2) (hab : a ≠ b) (hn : n1 + n2 ≤ 60) {Q : Value → Shared → Prop}
    (h : ∀ h' d n', (∀ x o, s.heap.get? x = some o → h'.get? x = some o) → n' ≤ n1 + n2 → SetS P w h' s.heap.objs.size (fun k => S1 k || S2 k) n' → Q (.ref s.heap.objs.size) { s with heap := h', drawn := d }) :
    wpAny (model P w) A (binaryOp .BitOr (.ref a) (.ref b)) Q E s := by
  refine wpAny_binaryOp_same (op := .BitOr) (T := "set") Ra.typeIs Rb.typeIs F.fills_set_or F.slot_set_or ?_
  refine wpAny_call_entry F.slot_set_or Ra.typeIs entry_set_or ?_ (F.args_set_or_2 _ _)
  rw [or_eq]
  refine wpAny_bind (m := Builtin.Frozenset.slot1 "__or__" _) (wpAny_pure ?_)
  dsimp only
  refine wpAny_bind (wpAny_bind (any_set Ra (any_set Rb ?_)))
  refine wp_if_neg (by simp) ?_
  try refine wpAny_bind (wpAny_pure ?_)
  refine wpAny_bind (wpAny_bind ?_)
  unfold Builtin.Frozenset.copyOf
  refine wpAny_bind ?_
  unfold Builtin.Frozenset.baseOf
  refine wpAny_bind (wpAny_isInstance Ra.typeIs sub_set ?_)
  refine wpAny_pure ?_
  simp only [if_true]
  refine wpAny_bind ?_
  unfold newSet
  refine wpAny_bind (wpAny_byText ?_)
  dsimp only
  refine wpAny_newObj_type ?_ (by size_fits)
  have hS : (s.heap.push (newS w)).get? s.heap.objs.size = some (newS w) := Heap.get?_push_size _ rfl
  refine wpAny_bind (wpAny_of_eq (a := s.heap.objs.size) rfl ?_)
  have hk : ∀ x o, s.heap.get? x = some o → (s.heap.push (newS w)).get? x = some o := fun x o e => Heap.get?_push_of_some _ e
  have lt : ∀ {x : Addr} {S : Str → Bool} {n : Nat}, SetS P w s.heap x S n → x < s.heap.objs.size := fun R => by
    obtain ⟨o, es, ep, t, ho, _⟩ := R
    exact Heap.lt_size ho
  have hra : s.heap.objs.size ≠ a := Nat.ne_of_gt (lt Ra)
  have hrb : s.heap.objs.size ≠ b := Nat.ne_of_gt (lt Rb)
  have Ra1 : SetS P w (s.heap.push (newS w)) a S1 n1 := Ra.at (hk a)
  refine wpAny_bind (merge_new (s := { s with heap := s.heap.push (newS w) }) Ra1 hS hra (by omega) fun h1 sb1 R1 hz => ?_)
  refine wpAny_pure ?_
  have hk1 : ∀ x o, s.heap.get? x = some o → h1.get? x = some o := fun x o e => (sb1.2 x (Nat.ne_of_lt (Heap.lt_size e))).trans (hk x o e)
  have Rb1 : SetS P w h1 b S2 n2 := Rb.at (hk1 b)
  have hne : ((Value.ref b) != Value.ref a) = true := by
    rw [bne_iff_ne]
    intro z
    exact hab (by cases z; rfl)
  simp only [Bool.false_eq_true, if_false]
  refine wp_if_pos hne ?_
  refine wpAny_bind (wpAny_of_eq (a := s.heap.objs.size) rfl ?_)
  refine wpAny_bind (wpAny_holding ?_)
  unfold Builtin.Frozenset.updateFrom
  refine wpAny_bind (any_set (s := { s with heap := h1 }) Rb1 ?_)
  refine wp_if_pos rfl ?_
  unfold Builtin.Frozenset.merge
  obtain ⟨o2, es2, ep2, t2, ho2, hex2, hd2, g2, nd2, hm2, hb2, hf2, _⟩ := id Rb1
  have fin : ∀ h2 d n', Heap.SameBut s.heap.objs.size h1 h2 → n' ≤ n1 + n2 → SetS P w h2 s.heap.objs.size (fun k => S1 k || S2 k) n' → Q (.ref s.heap.objs.size) { s with heap := h2, drawn := d } := fun h2 d n' sb hn' R => h h2 d n' (fun x o e => (sb.2 x (Nat.ne_of_lt (Heap.lt_size e))).trans (hk1 x o e)) hn' R
  refine wpAny_bind (m := Builtin.Frozenset.addrOf (.ref b)) (wpAny_pure ?_)
  refine wpAny_bind (wpAny_setEpoch_of (s := { s with heap := h1 }) ho2 hd2 hf2 ?_)
  rcases Nat.eq_zero_or_pos n1 with z | z
  · refine merge_new (s := { s with heap := h1 }) Rb1 (hz z) hrb (by omega) fun h2 sb2 R2 _ => ?_
    refine wpAny_pure (wpAny_pure ⟨_, rfl, (by intro q; cases q), fin h2 s.drawn n2 sb2 (by omega) (R2.congr fun k => ?_)⟩)
    have : S1 k = false := by
      obtain ⟨o, es, ep, t, ho, hex, hd, g, nd, hm, hb, hf, hnn, _⟩ := Ra
      cases q : S1 k with
      | false => rfl
      | true =>
        have := (hm k).1 q
        rw [List.eq_nil_of_length_eq_zero (l := es.toList) (by rw [Array.length_toList, hnn, z])] at this
        cases this
    rw [this, Bool.false_or]
  · refine merge_more (s := { s with heap := h1 }) Rb1 R1 hrb hn z (fun s' Q' e q => unch (s := { s with heap := h1 }) Rb1 ⟨o2, es2, t2, ho2, hd2⟩ s' Q' e q) fun h2 d n' sb2 hn' R2 => ?_
    exact wpAny_pure (wpAny_pure ⟨_, rfl, (by intro q; cases q), fin h2 d n' sb2 hn' R2⟩)
end
end DL
set_option maxHeartbeats 4000000
namespace DL
open PySem PySem.Spec PyProof.Rows L2
section
variable {X : Cx} {Wx : WX}
def rOrTx (X : Cx) : R2 := fun x y H Q => ∃ (a b : Addr) (S1 S2 : Str → Bool) (n1 n2 : Nat), x = .ref a ∧ y = .ref b ∧ a ≠ b ∧ H a = some (SsO X.prog X.w a S1 n1) ∧ H b = some (SsO X.prog X.w b S2 n2) ∧ n1 + n2 ≤ 60 ∧
  ∀ p n', H p = none → n' ≤ n1 + n2 → Q (.ref p) (upd H p (SsO X.prog X.w p (fun k => S1 k || S2 k) n'))
theorem op_orTx : OpR X (binaryOp .BitOr) (rOrTx X) := by
  intro pins s σ H x y v u Q I rx ry h
  obtain ⟨a, b, S1, S2, n1, n2, rfl, rfl, hab, ha, hb, hn, q⟩ := h
  cases rx
  cases ry
  refine or_txt (sso_get I ha) (sso_get I hb) hab hn fun h' d n' hk hn' R => ?_
  have I1 : Inv X pins σ H { s with drawn := d } := I.call' (ch := []) rfl (Un.kept fun b o e => e) (I.hok.kept fun b o e => e) I.bare (fun _ z => nomatch z)
  have fr : H s.heap.objs.size = none := I.hok.fresh (Nat.le_refl _)
  exact ⟨.ref _, _, I1.laid (t' := s.toks) hk (Nat.le_refl _) (sso_new R), rfl, q _ n' fr hn'⟩
def aSortOr (fa fb : FA) : FA := fun d S => (fa d S).bind fun us S1 => match us with
  | [u] => match (DL.listOf u S1).bind strsOf with
    | some zs => guard (decide (zs.length ≤ 30)) ((fb d S1).bind fun vs S2 => match vs with
      | [v] => match (DL.listOf v S2).bind strsOf with
        | some ys => guard (decide (ys.length ≤ 30)) (.ok ((sortT (nubT (zs ++ ys))).map .str) S2)
        | none => .bad
      | _ => .bad)
    | none => .bad
  | _ => .bad
theorem sl_sortOr {ea eb : Expr} {fa fb : FA} {p p2 p3 pos pos2 pos3 posb : Pos} (hc : X.calm = true) (hu : X.A.units + 64 < cLine) (hg : Gl X "sorted") (hm : X.mg "sorted" = none) (hg2 : Gl X "set") (hm2 : X.mg "set" = none) (ha : SimA X Wx [ea] fa) (hb : SimA X Wx [eb] fb)
    (he : starEach [.BinOp (.Call (.Name "set" p2) [ea] [] pos2) .BitOr (.Call (.Name "set" p3) [eb] [] pos3) posb] X.env = (false, eval (.BinOp (.Call (.Name "set" p2) [ea] [] pos2) .BitOr (.Call (.Name "set" p3) [eb] [] pos3) posb) X.env) :: starEach [] X.env := by rfl) (he2 : starEach [ea] X.env = (false, eval ea X.env) :: starEach [] X.env := by rfl) (he3 : starEach [eb] X.env = (false, eval eb X.env) :: starEach [] X.env := by rfl)
    (hpl : (backTo pos (starEach [] X.env)).any (·.1) = false := by rfl) (hpl2 : (backTo pos2 (starEach [] X.env)).any (·.1) = false := by rfl) (hpl3 : (backTo pos3 (starEach [] X.env)).any (·.1) = false := by rfl) :
    SimL X Wx (.Call (.Name "sorted" p) [.BinOp (.Call (.Name "set" p2) [ea] [] pos2) .BitOr (.Call (.Name "set" p3) [eb] [] pos3) posb] [] pos) (aSortOr fa fb) := by
  obtain ⟨ta, pa, ha⟩ := ha.out
  obtain ⟨tb, pb, hb⟩ := hb.out
  have P1 := pe_callTy (T := "set") (p := p2) (pos := pos2) (cr_setTx hc) hg2 hm2 (by decide +kernel) pa (by decide) (by decide) he2 hpl2
  have P1b := pe_callTy (T := "set") (p := p3) (pos := pos3) (cr_setTx hc) hg2 hm2 (by decide +kernel) pb (by decide) (by decide) he3 hpl3
  have P3 := pe_op (pos := posb) op_orTx P1 P1b
  have P2 := pe_callB (id := "sorted") (p := p) (pos := pos) (cr_sortTW hc hu) hg hm (by decide +kernel) (pa_cons P3 pa_nil he) (by decide) (by decide) he hpl
  refine SimL.mk P2 (fun w d σ Q s e h => ?_)
  refine ha w d σ _ s e ((Pst.of_bind h).mono (fun us S1 h1 w1 vs eS st s1 rs => ?_) fun _ _ q => q)
  subst eS
  split at h1
  · split at h1
    · rename_i u zs hb1
      obtain ⟨hl, h1⟩ := guard_post h1
      have hl := of_decide_eq_true hl
      cases rs with
      | cons r rs =>
        cases rs
        obtain ⟨ls, hls, hzs⟩ := Option.bind_eq_some_iff.mp hb1
        obtain ⟨a, xs, rfl, q, rx⟩ := listOf_ok s1 r hls
        have e1 := strsOf_ok rx hzs
        subst e1
        refine ⟨a, zs, rfl, q, by omega, fun p' c hp hcl => ?_⟩
        have st1 := Stp.new s1 (o := SsO X.prog X.w p' (fun j => decide (j ∈ zs)) c) hp
        refine hb (w1.new p' _) d σ _ (s1.new hp) (e.ext (st.trans st1).x s) ((Pst.of_bind h1).mono (fun us2 S2 h2 w2 vs2 eS2 st2 s2 rs2 => ?_) fun _ _ q => ?_)
        · subst eS2
          split at h2
          · split at h2
            · rename_i v ys hb2
              obtain ⟨hl2, h2⟩ := guard_post h2
              have hl2 := of_decide_eq_true hl2
              cases rs2 with
              | cons r2 rs2 =>
                cases rs2
                obtain ⟨ls2, hls2, hys⟩ := Option.bind_eq_some_iff.mp hb2
                obtain ⟨a2, xs2, rfl, q2, rx2⟩ := listOf_ok s2 r2 hls2
                have e2 := strsOf_ok rx2 hys
                subst e2
                refine ⟨a2, ys, rfl, q2, by omega, fun p2' c2 hp2 hcl2 => ?_⟩
                have st3 := Stp.new s2 (o := SsO X.prog X.w p2' (fun j => decide (j ∈ ys)) c2) hp2
                have hp' : w2.H p' = some (SsO X.prog X.w p' (fun j => decide (j ∈ zs)) c) := st2.x.keep p' _ upd_same fun z => s1.tracked z hp
                have hne : p' ≠ p2' := fun z => by rw [z, hp2] at hp'; cases hp'
                refine ⟨p', p2', fun j => decide (j ∈ zs), fun j => decide (j ∈ ys), c, c2, rfl, rfl, hne, ?_, upd_same, by omega, fun p3' n3 hp3 hn3 => ?_⟩
                · rw [upd_ne hne]; exact hp'
                refine ⟨p3', _, n3, rfl, upd_same, by omega, fun ks p4 nd mm hp4 => ?_⟩
                have st4 := Stp.new (s2.new hp2) (o := SsO X.prog X.w p3' (fun k => decide (k ∈ zs) || decide (k ∈ ys)) n3) hp3
                have e : sortT ks = sortT (nubT (zs ++ ys)) := sortT_eq ((List.perm_ext_iff_of_nodup nd (nubT_nodup _)).mpr fun k => by rw [mm, nubT_mem, List.mem_append, Bool.or_eq_true, decide_eq_true_eq, decide_eq_true_eq])
                rw [e]
                exact h2 ((w2.new p2' _).new p3' _) p4 _ rfl ((st.trans st1).trans (st2.trans (st3.trans st4))) ((s2.new hp2).new hp3) (strs_rel _) hp4
            · exact h2.elim
          · exact h2.elim
        · exact q.up (st.trans st1)
    · exact h1.elim
  · exact h1.elim
end
end DL
namespace Law
open PySem PySem.Spec L2 DL
noncomputable section
def topS (i : Nat) : Stmt := PySem.Challenge.pw_middlesay_k03_tables_of_truth.main.body.getD i (.Pass ⟨0, 0, 0, 0⟩)
abbrev s_collect : Stmt := topS 3
abbrev s_names_of : Stmt := topS 4
abbrev s_need_names : Stmt := topS 5
abbrev s_full_of : Stmt := topS 7
abbrev s_table_of_name : Stmt := topS 8
abbrev s_joined_tables : Stmt := topS 9
abbrev s_table_in : Stmt := topS 10
abbrev s_table : Stmt := topS 11
abbrev s_same : Stmt := topS 12
abbrev s_law_tape : Stmt := topS 14
abbrev s_law_draw : Stmt := topS 15
abbrev s_law_words : Stmt := topS 16
abbrev s_law_saying : Stmt := topS 17
abbrev s_law_value : Stmt := topS 18
abbrev s_law_row : Stmt := topS 19
abbrev s_law_told : Stmt := topS 20
abbrev s_law_alike : Stmt := topS 21
abbrev s_law_but_one : Stmt := topS 22
abbrev s_law_bare_right : Stmt := topS 23
abbrev s_law_sames_right : Stmt := topS 24
abbrev s_law : Stmt := topS 25
abbrev n_collect : List Str := ["saying", "found", "part"]
theorem sc_collect : FnScope n_collect ["saying", "found"] (defScope s_collect) := ⟨rfl, rfl, rfl, by decide +kernel, rfl, by decide +kernel, by decide +kernel⟩
abbrev n_names_of : List Str := ["saying", "found"]
theorem sc_names_of : FnScope n_names_of ["saying"] (defScope s_names_of) := ⟨rfl, rfl, rfl, by decide +kernel, rfl, by decide +kernel, by decide +kernel⟩
abbrev n_need_names : List Str := ["names", "row", "name"]
theorem sc_need_names : FnScope n_need_names ["names", "row"] (defScope s_need_names) := ⟨rfl, rfl, rfl, by decide +kernel, rfl, by decide +kernel, by decide +kernel⟩
abbrev n_full_of : List Str := ["many"]
theorem sc_full_of : FnScope n_full_of ["many"] (defScope s_full_of) := ⟨rfl, rfl, rfl, by decide +kernel, rfl, by decide +kernel, by decide +kernel⟩
abbrev n_table_of_name : List Str := ["place", "many", "size", "found", "wide"]
theorem sc_table_of_name : FnScope n_table_of_name ["place", "many"] (defScope s_table_of_name) := ⟨rfl, rfl, rfl, by decide +kernel, rfl, by decide +kernel, by decide +kernel⟩
abbrev n_joined_tables : List Str := ["word", "some", "full"]
theorem sc_joined_tables : FnScope n_joined_tables ["word", "some", "full"] (defScope s_joined_tables) := ⟨rfl, rfl, rfl, by decide +kernel, rfl, by decide +kernel, by decide +kernel⟩
abbrev n_table_in : List Str := ["saying", "tables", "full", "part"]
theorem sc_table_in : FnScope n_table_in ["saying", "tables", "full"] (defScope s_table_in) := ⟨rfl, rfl, rfl, by decide +kernel, rfl, by decide +kernel, by decide +kernel⟩
abbrev n_table : List Str := ["saying", "names", "many", "tables", "place", "name"]
theorem sc_table : FnScope n_table ["saying", "names"] (defScope s_table) := ⟨rfl, rfl, rfl, by decide +kernel, rfl, by decide +kernel, by decide +kernel⟩
abbrev n_same : List Str := ["saying", "other", "names"]
theorem sc_same : FnScope n_same ["saying", "other"] (defScope s_same) := ⟨rfl, rfl, rfl, by decide +kernel, rfl, by decide +kernel, by decide +kernel⟩
abbrev n_law_tape : List Str := ["_law_script"]
theorem sc_law_tape : FnScope n_law_tape ["_law_script"] (defScope s_law_tape) := ⟨rfl, rfl, rfl, by decide +kernel, rfl, by decide +kernel, by decide +kernel⟩
abbrev n_law_draw : List Str := ["_law_tape_here", "_law_many", "_law_spot", "_law_cells", "_law_cell", "_law_primes", "_law_prime", "_law_seed", "_law_found"]
theorem sc_law_draw : FnScope n_law_draw ["_law_tape_here", "_law_many"] (defScope s_law_draw) := ⟨rfl, rfl, rfl, by decide +kernel, rfl, by decide +kernel, by decide +kernel⟩
abbrev n_law_words : List Str := ["_law_tape_here", "_law_many", "_law_letters", "_law_own", "_law_base", "_law_found", "_law_k", "_law_letter", "_law_some", "_law_word", "_law_more"]
theorem sc_law_words : FnScope n_law_words ["_law_tape_here", "_law_many"] (defScope s_law_words) := ⟨rfl, rfl, rfl, by decide +kernel, rfl, by decide +kernel, by decide +kernel⟩
abbrev n_law_saying : List Str := ["_law_tape_here", "_law_names", "_law_left", "_law_deep", "_law_kind", "_law_word", "_law_first"]
theorem sc_law_saying : FnScope n_law_saying ["_law_tape_here", "_law_names", "_law_left", "_law_deep"] (defScope s_law_saying) := ⟨rfl, rfl, rfl, by decide +kernel, rfl, by decide +kernel, by decide +kernel⟩
abbrev n_law_value : List Str := ["_law_saying_here", "_law_row_here", "_law_word", "_law_some", "_law_part"]
theorem sc_law_value : FnScope n_law_value ["_law_saying_here", "_law_row_here"] (defScope s_law_value) := ⟨rfl, rfl, rfl, by decide +kernel, rfl, by decide +kernel, by decide +kernel⟩
abbrev n_law_row : List Str := ["_law_names", "_law_number", "_law_k"]
theorem sc_law_row : FnScope n_law_row ["_law_names", "_law_number"] (defScope s_law_row) := ⟨rfl, rfl, rfl, by decide +kernel, rfl, by decide +kernel, by decide +kernel⟩
abbrev n_law_told : List Str := ["_law_saying_here", "_law_names", "_law_found", "_law_caught", "e"]
theorem sc_law_told : FnScope n_law_told ["_law_saying_here", "_law_names"] (defScope s_law_told) := ⟨rfl, rfl, rfl, by decide +kernel, rfl, by decide +kernel, by decide +kernel⟩
abbrev n_law_alike : List Str := ["_law_one", "_law_other", "_law_names", "_law_rows", "_law_number", "_law_row_here"]
theorem sc_law_alike : FnScope n_law_alike ["_law_one", "_law_other", "_law_names"] (defScope s_law_alike) := ⟨rfl, rfl, rfl, by decide +kernel, rfl, by decide +kernel, by decide +kernel⟩
abbrev n_law_but_one : List Str := ["_law_tape_here", "_law_saying_here", "_law_names", "_law_number", "_law_row_here", "_law_there", "_law_name"]
theorem sc_law_but_one : FnScope n_law_but_one ["_law_tape_here", "_law_saying_here", "_law_names"] (defScope s_law_but_one) := ⟨rfl, rfl, rfl, by decide +kernel, rfl, by decide +kernel, by decide +kernel⟩
abbrev n_law_bare_right : List Str := ["_law_tape_here", "_law_some", "_law_bare"]
theorem sc_law_bare_right : FnScope n_law_bare_right ["_law_tape_here"] (defScope s_law_bare_right) := ⟨rfl, rfl, rfl, by decide +kernel, rfl, by decide +kernel, by decide +kernel⟩
abbrev n_law_sames_right : List Str := ["_law_tape_here", "_law_saying_here", "_law_names", "_law_other", "_law_alike_here", "_law_more", "_law_one", "_law_answer"]
theorem sc_law_sames_right : FnScope n_law_sames_right ["_law_tape_here", "_law_saying_here", "_law_names"] (defScope s_law_sames_right) := ⟨rfl, rfl, rfl, by decide +kernel, rfl, by decide +kernel, by decide +kernel⟩
abbrev n_law : List Str := ["_law_script", "_law_tape_here", "_law_names", "_law_turn", "_law_saying_here", "_law_many", "_law_first", "_law_order", "_law_lacking", "_law_found", "_law_name", "_law_numbers", "_law_number", "_law_k"]
theorem sc_law : FnScope n_law ["_law_script"] (defScope s_law) := ⟨rfl, rfl, rfl, by decide +kernel, rfl, by decide +kernel, by decide +kernel⟩
abbrev sx_NoName : Stmt := clsInit (topS 1)
theorem scx_NoName : FnScope ["self", "name"] ["self", "name"] (defScope sx_NoName) := ⟨rfl, rfl, rfl, by decide +kernel, rfl, by decide +kernel, by decide +kernel⟩
def ex_NoName : List (Str × Bool) := [("NoName", true)]
abbrev i_collect : Nat := 0
abbrev i_names_of : Nat := 1
abbrev i_need_names : Nat := 2
abbrev i_full_of : Nat := 3
abbrev i_table_of_name : Nat := 4
abbrev i_joined_tables : Nat := 5
abbrev i_table_in : Nat := 6
abbrev i_table : Nat := 7
abbrev i_same : Nat := 8
abbrev i_law_tape : Nat := 9
abbrev i_law_draw : Nat := 10
abbrev i_law_words : Nat := 11
abbrev i_law_saying : Nat := 12
abbrev i_law_value : Nat := 13
abbrev i_law_row : Nat := 14
abbrev i_law_told : Nat := 15
abbrev i_law_alike : Nat := 16
abbrev i_law_but_one : Nat := 17
abbrev i_law_bare_right : Nat := 18
abbrev i_law_sames_right : Nat := 19
abbrev i_law : Nat := 20
def b_collect (c : Nat → List U → Sto → R U) : FS :=
  (fIfS (fB (f2 eqU (f2 ixU (fVar 0) (fC (.int 0))) (fC (.str "name")))) (fStore (fC (.bl true)) (fVar 1) (f2 ixU (fVar 0) (fC (.int 1)))) (fFor (aOver tupV (fSl (fVar 0) (oSome (fC (.int 1))) oNone)) (gN 2) (fExpr (fCall 2 (c i_collect) (aCons (fVar 2) (aCons (fVar 1) aNil))))))
def b_names_of (c : Nat → List U → Sto → R U) : FS :=
  (fSeq (fSet 1 (fDloc dNew))
    (fSeq (fExpr (fCall 2 (c i_collect) (aCons (fVar 0) (aCons (fVar 1) aNil))))
    (fRet (fVal (fA sortedW (aCons (fVar 1) aNil))))))
def b_need_names (c : Nat → List U → Sto → R U) : FS :=
  (fFor (aOver lstV (fVar 0)) (gN 2) (fIfS (fB (f2 ninU (fVar 2) (fVar 1))) (fRaise "NoName" "name" (aCons (fVar 2) aNil)) fNop))
def b_full_of (c : Nat → List U → Sto → R U) : FS :=
  (fRet (f2 subU (f2 shlU (fC (.int 1)) (f2 shlU (fC (.int 1)) (fVar 0))) (fC (.int 1))))
def b_table_of_name (c : Nat → List U → Sto → R U) : FS :=
  (fSeq (fSet 2 (f2 shlU (fC (.int 1)) (fVar 0)))
    (fSeq (fSet 3 (f2 shlGU (f2 subU (f2 shlU (fC (.int 1)) (fVar 2)) (fC (.int 1))) (fVar 2)))
    (fSeq (fSet 4 (f2 mulU (fC (.int 2)) (fVar 2)))
    (fSeq (whileF (fB (f2 ltU (fVar 4) (f2 shlU (fC (.int 1)) (fVar 1)))) (fSeq (fSet 3 (f2 orU (fVar 3) (f2 shlGU (fVar 3) (fVar 4))))
    (fSet 4 (f2 mulU (fC (.int 2)) (fVar 4)))) 1000000)
    (fRet (fVar 3))))))
def b_joined_tables (c : Nat → List U → Sto → R U) : FS :=
  (fSeq (fIfS (fB (f2 eqU (fVar 0) (fC (.str "yes")))) (fRet (fVar 2)) fNop)
    (fSeq (fIfS (fB (f2 eqU (fVar 0) (fC (.str "no")))) (fRet (fC (.int 0))) fNop)
    (fSeq (fIfS (fB (f2 eqU (fVar 0) (fC (.str "not")))) (fRet (f2 xorU (fVar 2) (f2 ixU (fVar 1) (fC (.int 0))))) fNop)
    (fSeq (fIfS (fB (f2 eqU (fVar 0) (fC (.str "and")))) (fRet (f2 andU (f2 ixU (fVar 1) (fC (.int 0))) (f2 ixU (fVar 1) (fC (.int 1))))) fNop)
    (fSeq (fIfS (fB (f2 eqU (fVar 0) (fC (.str "or")))) (fRet (f2 orU (f2 ixU (fVar 1) (fC (.int 0))) (f2 ixU (fVar 1) (fC (.int 1))))) fNop)
    (fSeq (fIfS (fB (f2 eqU (fVar 0) (fC (.str "if")))) (fRet (f2 orU (f2 xorU (fVar 2) (f2 ixU (fVar 1) (fC (.int 0)))) (f2 ixU (fVar 1) (fC (.int 1))))) fNop)
    (fRet (f2 xorU (f2 xorU (fVar 2) (f2 ixU (fVar 1) (fC (.int 0)))) (f2 ixU (fVar 1) (fC (.int 1)))))))))))
def b_table_in (c : Nat → List U → Sto → R U) : FS :=
  (fSeq (fIfS (fB (f2 eqU (f2 ixU (fVar 0) (fC (.int 0))) (fC (.str "name")))) (fRet (f2 ixU (fVar 1) (f2 ixU (fVar 0) (fC (.int 1))))) fNop)
    (fRet (fCall 3 (c i_joined_tables) (aCons (f2 ixU (fVar 0) (fC (.int 0))) (aCons (fVal (aComp (aOver tupV (fSl (fVar 0) (oSome (fC (.int 1))) oNone)) (gN 3) fYes (fCall 3 (c i_table_in) (aCons (fVar 3) (aCons (fVar 1) (aCons (fVar 2) aNil)))) [3])) (aCons (fVar 2) aNil))))))
def b_table (c : Nat → List U → Sto → R U) : FS :=
  (fSeq (fExpr (fCall 2 (c i_need_names) (aCons (fCall 1 (c i_names_of) (aCons (fVar 0) aNil)) (aCons (fVar 1) aNil))))
    (fSeq (fSet 2 (fA lenC (aCons (fVar 1) aNil)))
    (fSeq (fSet 3 (fDloc dNew))
    (fSeq (fFor (aEnumA (aCons (fVar 1) aNil)) (gTup 2 (gCons (gN 4) (gCons (gN 5) gNil))) (fStore (fCall 2 (c i_table_of_name) (aCons (fVar 4) (aCons (fVar 2) aNil))) (fVar 3) (fVar 5)))
    (fRet (fCall 3 (c i_table_in) (aCons (fVar 0) (aCons (fVar 3) (aCons (fCall 1 (c i_full_of) (aCons (fVar 2) aNil)) aNil)))))))))
def b_same (c : Nat → List U → Sto → R U) : FS :=
  (fSeq (fSet 2 (fVal (aSortOr (aCons (fCall 1 (c i_names_of) (aCons (fVar 0) aNil)) aNil) (aCons (fCall 1 (c i_names_of) (aCons (fVar 1) aNil)) aNil))))
    (fRet (f2 eqU (fCall 2 (c i_table) (aCons (fVar 0) (aCons (fVar 2) aNil))) (fCall 2 (c i_table) (aCons (fVar 1) (aCons (fVar 2) aNil))))))
def b_law_tape (c : Nat → List U → Sto → R U) : FS :=
  (fRet (fDloc (dDisp [((fC (.str "cells")), (fSl (fVar 0) oNone (oSome (fC (.int 63))))), ((fC (.str "spot")), (fC (.int 0))), ((fC (.str "left")), (fC (.int 0)))])))
def b_law_draw (c : Nat → List U → Sto → R U) : FS :=
  (fSeq (fIfS (fB (f2 gtU (f2 ixU (fVar 0) (fC (.str "left"))) (fC (.int 0)))) (fSeq (fSet 8 (f2 modU (f2 ixU (fVar 0) (fC (.str "left"))) (fVar 1)))
    (fSeq (fStore (f2 fdivU (f2 ixU (fVar 0) (fC (.str "left"))) (fVar 1)) (fVar 0) (fC (.str "left")))
    (fRet (fVar 8)))) fNop)
    (fSeq (fSet 2 (f2 ixU (fVar 0) (fC (.str "spot"))))
    (fSeq (fStore (f2 addU (fVar 2) (fC (.int 1))) (fVar 0) (fC (.str "spot")))
    (fSeq (fSet 3 (fOrV (f2 ixU (fVar 0) (fC (.str "cells"))) (fVal (aLst (aCons (fC (.int 0)) aNil)))))
    (fSeq (fSet 4 (f2 ixU (fVar 3) (f2 modU (fVar 2) (fA lenC (aCons (fVar 3) aNil)))))
    (fSeq (fIfS (fAnd (fB (f2 geU (fVar 4) (f2 powU (fC (.int 10)) (fC (.int 18))))) (fB (f2 ltU (fVar 2) (fA lenC (aCons (fVar 3) aNil))))) (fSeq (fStore (f2 fdivU (f2 subU (fVar 4) (f2 powU (fC (.int 10)) (fC (.int 18)))) (fVar 1)) (fVar 0) (fC (.str "left")))
    (fRet (f2 modU (f2 subU (fVar 4) (f2 powU (fC (.int 10)) (fC (.int 18)))) (fVar 1)))) fNop)
    (fSeq (fSet 5 (fVal (aLst (aCons (fC (.int 2147483647)) (aCons (fC (.int 2147483629)) (aCons (fC (.int 2147483587)) (aCons (fC (.int 2147483579)) (aCons (fC (.int 2147483563)) (aCons (fC (.int 2147483549)) (aCons (fC (.int 2147483543)) aNil))))))))))
    (fSeq (fSet 6 (f2 ixU (fVar 5) (f2 modU (fVar 2) (fC (.int 7)))))
    (fSeq (fSet 7 (f2 modU (f2 addU (f2 addU (f2 addU (f2 mulU (f2 modU (fVar 4) (fVar 6)) (fC (.int 48271))) (f2 mulU (f2 mulU (fC (.int 7919)) (fVar 2)) (fVar 2))) (f2 mulU (fC (.int 69621)) (fVar 2))) (fC (.int 1))) (fVar 6)))
    (fSeq (fSet 7 (f2 modU (f2 mulU (fVar 7) (f2 addU (fVar 7) (fC (.int 16807)))) (f2 ixU (fVar 5) (f2 modU (f2 addU (fVar 2) (fC (.int 3))) (fC (.int 7))))))
    (fSeq (fSet 8 (f2 fdivU (f2 modU (f2 mulU (fVar 7) (fVar 7)) (fVar 6)) (fC (.int 64))))
    (fSeq (fIfS (fB (f2 gtU (fVar 1) (f2 powU (fC (.int 10)) (fC (.int 6))))) (fSet 8 (f2 addU (f2 modU (fVar 8) (f2 powU (fC (.int 10)) (fC (.int 6)))) (f2 mulU (f2 powU (fC (.int 10)) (fC (.int 6))) (fCall 2 (c i_law_draw) (aCons (fVar 0) (aCons (f2 addU (f2 fdivU (fVar 1) (f2 powU (fC (.int 10)) (fC (.int 6)))) (fC (.int 1))) aNil)))))) fNop)
    (fRet (f2 modU (fVar 8) (fVar 1)))))))))))))))
def b_law_words (c : Nat → List U → Sto → R U) : FS :=
  (fSeq (fSet 2 (fC (.str "abcdefghijklmnopqrstuvwxyz")))
    (fSeq (fSet 3 (fM "str" splitM (fC (.str "nota andy org isa yesno given noa same")) (aCons (fC (.str " ")) aNil)))
    (fSeq (fSet 4 (fM "str" joinM (fC (.str "")) (aCons (fVal (aComp (aRng1 (aCons (f2 addU (fC (.int 1)) (fCall 2 (c i_law_draw) (aCons (fVar 0) (aCons (fC (.int 6)) aNil)))) aNil)) (gN 6) fYes (f2 ixU (fVar 2) (fCall 2 (c i_law_draw) (aCons (fVar 0) (aCons (fC (.int 26)) aNil)))) [6])) aNil)))
    (fSeq (fSet 5 (fLoc (aLst aNil)))
    (fSeq (fFor (aRng1 (aCons (fVar 1) aNil)) (gN 6) (fSeq (fSet 7 (f2 ixU (fVar 2) (fCall 2 (c i_law_draw) (aCons (fVar 0) (aCons (fC (.int 26)) aNil)))))
    (fSeq (fSet 8 (fVal (aLst (aCons (fVar 4) (aCons (f2 addU (fVar 4) (fVar 7)) (aCons (f2 addU (fVar 7) (fVar 4)) (aCons (fVar 7) (aCons (f2 addU (f2 addU (fVar 4) (fVar 7)) (fVar 7)) (aCons (f2 ixU (fVar 3) (fCall 2 (c i_law_draw) (aCons (fVar 0) (aCons (fC (.int 8)) aNil)))) aNil)))))))))
    (fSeq (fSet 9 (fSl (f2 ixU (fVar 8) (fCall 2 (c i_law_draw) (aCons (fVar 0) (aCons (fC (.int 6)) aNil)))) oNone (oSome (fC (.int 8)))))
    (fSeq (fFor (aOver strV (fVar 2)) (gN 10) (fIfS (fOr (fB (f2 inU (fVar 9) (fVar 5))) (fB (f2 inU (fVar 9) (fTup (aCons (fC (.str "not")) (aCons (fC (.str "and")) (aCons (fC (.str "or")) (aCons (fC (.str "gives")) (aCons (fC (.str "is")) (aCons (fC (.str "yes")) (aCons (fC (.str "no")) aNil))))))))))) (fSet 9 (f2 addU (fSl (fVar 9) oNone (oSome (fC (.int 7)))) (fVar 10))) fNop))
    (fExpr (fM "list" appM (fVar 5) (aCons (fVar 9) aNil))))))))
    (fRet (fIce (fVar 5))))))))
def b_law_saying (c : Nat → List U → Sto → R U) : FS :=
  (fSeq (fSet 4 (fCall 2 (c i_law_draw) (aCons (fVar 0) (aCons (fC (.int 10)) aNil))))
    (fSeq (fIfS (fOr (fB (f2 ltU (f2 ixU (fVar 2) (fC (.int 0))) (fC (.int 2)))) (fOr (fB (f2 ltU (fVar 3) (fC (.int 2)))) (fB (f2 ltU (fVar 4) (fC (.int 3)))))) (fRet (f2 ixU (fVal (aLst (aCons (fTup (aCons (fC (.str "yes")) aNil)) (aCons (fTup (aCons (fC (.str "no")) aNil)) (aCons (fTup (aCons (fC (.str "name")) (aCons (f2 ixU (fVar 1) (fCall 2 (c i_law_draw) (aCons (fVar 0) (aCons (fA lenC (aCons (fVar 1) aNil)) aNil)))) aNil))) aNil))))) (fA minC (aCons (fC (.int 2)) (aCons (fCall 2 (c i_law_draw) (aCons (fVar 0) (aCons (fC (.int 12)) aNil))) aNil))))) fNop)
    (fSeq (fStore (f2 subU (f2 subU (f2 ixU (fVar 2) (fC (.int 0))) (fC (.int 1))) (fA intC (aCons (f2 gtU (fVar 4) (fC (.int 3))) aNil))) (fVar 2) (fC (.int 0)))
    (fSeq (fIfS (fB (f2 eqU (fVar 4) (fC (.int 3)))) (fRet (fTup (aCons (fC (.str "not")) (aCons (fCall 4 (c i_law_saying) (aCons (fVar 0) (aCons (fVar 1) (aCons (fVar 2) (aCons (f2 subU (fVar 3) (fC (.int 1))) aNil))))) aNil)))) fNop)
    (fSeq (fSet 5 (f2 ixU (fVal (aLst (aCons (fC (.str "and")) (aCons (fC (.str "or")) (aCons (fC (.str "if")) (aCons (fC (.str "same")) (aCons (fC (.str "and")) (aCons (fC (.str "or")) aNil)))))))) (f2 subU (fVar 4) (fC (.int 4)))))
    (fSeq (fSet 6 (fCall 4 (c i_law_saying) (aCons (fVar 0) (aCons (fVar 1) (aCons (fVar 2) (aCons (f2 subU (fVar 3) (fC (.int 1))) aNil))))))
    (fRet (fTup (aCons (fVar 5) (aCons (fVar 6) (aCons (fCall 4 (c i_law_saying) (aCons (fVar 0) (aCons (fVar 1) (aCons (fVar 2) (aCons (f2 subU (fVar 3) (fC (.int 1))) aNil))))) aNil)))))))))))
def b_law_value (c : Nat → List U → Sto → R U) : FS :=
  (fSeq (fSet 2 (f2 ixU (fVar 0) (fC (.int 0))))
    (fSeq (fIfS (fB (f2 eqU (fVar 2) (fC (.str "name")))) (fRet (f2 ixU (fVar 1) (f2 ixU (fVar 0) (fC (.int 1))))) fNop)
    (fSeq (fSet 3 (fVal (aComp (aOver tupV (fSl (fVar 0) (oSome (fC (.int 1))) oNone)) (gN 4) fYes (fCall 2 (c i_law_value) (aCons (fVar 4) (aCons (fVar 1) aNil))) [4])))
    (fSeq (fIfS (fB (f2 eqU (fVar 2) (fC (.str "not")))) (fRet (fNotV (f2 ixU (fVar 3) (fC (.int 0))))) fNop)
    (fSeq (fIfS (fB (f2 eqU (fVar 2) (fC (.str "and")))) (fRet (fAndV (f2 ixU (fVar 3) (fC (.int 0))) (f2 ixU (fVar 3) (fC (.int 1))))) fNop)
    (fSeq (fIfS (fB (f2 eqU (fVar 2) (fC (.str "or")))) (fRet (fOrV (f2 ixU (fVar 3) (fC (.int 0))) (f2 ixU (fVar 3) (fC (.int 1))))) fNop)
    (fSeq (fIfS (fB (f2 eqU (fVar 2) (fC (.str "if")))) (fRet (fOrV (f2 ixU (fVar 3) (fC (.int 1))) (fNotV (f2 ixU (fVar 3) (fC (.int 0)))))) fNop)
    (fSeq (fIfS (fB (f2 eqU (fVar 2) (fC (.str "same")))) (fRet (f2 eqU (f2 ixU (fVar 3) (fC (.int 0))) (f2 ixU (fVar 3) (fC (.int 1))))) fNop)
    (fRet (f2 eqU (fVar 2) (fC (.str "yes"))))))))))))
def b_law_row (c : Nat → List U → Sto → R U) : FS :=
  (fRet (fDval (fA dictC (aCons (fVal (aComp (aRng1 (aCons (fA lenC (aCons (fVar 0) aNil)) aNil)) (gN 2) fYes (fTup (aCons (f2 ixU (fVar 0) (fVar 2)) (aCons (f2 eqU (f2 andU (f2 shrU (fVar 1) (fVar 2)) (fC (.int 1))) (fC (.int 1))) aNil))) [2])) aNil))))
def b_law_told (c : Nat → List U → Sto → R U) : FS :=
  (fSeq (fSet 2 (fC .non))
    (fSeq (fSet 3 (fC .non))
    (fSeq (fTry (lookM ex_NoName) 4 (fSet 2 (fCall 2 (c i_table) (aCons (fVar 0) (aCons (fVar 1) aNil)))) (fSet 3 (fVar 4)))
    (fRet (fIf (fB (f2 isU (fVar 3) (fC .non))) (fVar 2) (fTup (aCons (fFld ["NoName"] "name" (fVar 3)) aNil)))))))
def b_law_alike (c : Nat → List U → Sto → R U) : FS :=
  (fSeq (fSet 3 (fVal (aComp (aRng1 (aCons (f2 shlU (fC (.int 1)) (fA lenC (aCons (fVar 2) aNil))) aNil)) (gN 4) fYes (fCall 2 (c i_law_row) (aCons (fVar 2) (aCons (fVar 4) aNil))) [4])))
    (fRet (f2 eqU (fVal (aComp (aOver lstV (fVar 3)) (gN 5) fYes (fCall 2 (c i_law_value) (aCons (fVar 0) (aCons (fVar 5) aNil))) [5])) (fVal (aComp (aOver lstV (fVar 3)) (gN 5) fYes (fCall 2 (c i_law_value) (aCons (fVar 1) (aCons (fVar 5) aNil))) [5])))))
def b_law_but_one (c : Nat → List U → Sto → R U) : FS :=
  (fSeq (fSet 3 (fCall 2 (c i_law_draw) (aCons (fVar 0) (aCons (f2 shlU (fC (.int 1)) (fA lenC (aCons (fVar 2) aNil))) aNil))))
    (fSeq (fSet 4 (fCall 2 (c i_law_row) (aCons (fVar 2) (aCons (fVar 3) aNil))))
    (fSeq (fSet 5 (fTup (aCons (fC (.str "yes")) aNil)))
    (fSeq (fFor (aOver lstV (fVar 2)) (gN 6) (fSet 5 (fTup (aCons (fC (.str "and")) (aCons (fVar 5) (aCons (fIf (fTru (f2 ixU (fVar 4) (fVar 6))) (fTup (aCons (fC (.str "name")) (aCons (fVar 6) aNil))) (fTup (aCons (fC (.str "not")) (aCons (fTup (aCons (fC (.str "name")) (aCons (fVar 6) aNil))) aNil)))) aNil))))))
    (fRet (fTup (aCons (fTup (aCons (fC (.str "and")) (aCons (fTup (aCons (fC (.str "not")) (aCons (fVar 5) aNil))) (aCons (fVar 1) aNil)))) (aCons (fNotV (fCall 2 (c i_law_value) (aCons (fVar 1) (aCons (fVar 4) aNil)))) aNil))))))))
def b_law_bare_right (c : Nat → List U → Sto → R U) : FS :=
  (fSeq (fSet 1 (fVal (aLst (aCons (fTup (aCons (fC (.str "not")) (aCons (fTup (aCons (fC (.str "yes")) aNil)) aNil))) (aCons (fTup (aCons (fC (.str "same")) (aCons (fTup (aCons (fC (.str "no")) aNil)) (aCons (fTup (aCons (fC (.str "no")) aNil)) aNil)))) (aCons (fTup (aCons (fC (.str "yes")) aNil)) (aCons (fTup (aCons (fC (.str "if")) (aCons (fTup (aCons (fC (.str "yes")) aNil)) (aCons (fTup (aCons (fC (.str "no")) aNil)) aNil)))) (aCons (fTup (aCons (fC (.str "no")) aNil)) aNil))))))))
    (fSeq (fSet 2 (f2 ixU (fVar 1) (fCall 2 (c i_law_draw) (aCons (fVar 0) (aCons (fC (.int 5)) aNil)))))
    (fRet (f2 eqU (fCall 2 (c i_table) (aCons (fVar 2) (aCons (fVal (aLst aNil)) aNil))) (fA intC (aCons (fCall 2 (c i_law_value) (aCons (fVar 2) (aCons (fDval dNew) aNil))) aNil))))))
def b_law_sames_right (c : Nat → List U → Sto → R U) : FS :=
  (fSeq (fAsg (gTup 2 (gCons (gN 3) (gCons (gN 4) gNil))) (fCall 3 (c i_law_but_one) (aCons (fVar 0) (aCons (fVar 1) (aCons (fSl (fVar 2) oNone (oSome (f2 addU (fC (.int 7)) (fCall 2 (c i_law_draw) (aCons (fVar 0) (aCons (fC (.int 6)) aNil)))))) aNil)))))
    (fSeq (fIfS (fOr (fB (f2 neU (fCall 2 (c i_same) (aCons (fVar 1) (aCons (fVar 3) aNil))) (fVar 4))) (fB (f2 neU (fCall 2 (c i_same) (aCons (fVar 3) (aCons (fVar 1) aNil))) (fVar 4)))) (fRet (fC (.bl false))) fNop)
    (fSeq (fSet 3 (fCall 4 (c i_law_saying) (aCons (fVar 0) (aCons (fSl (fVar 2) oNone (oSome (fC (.int 4)))) (aCons (fLoc (aLst (aCons (fC (.int 8)) aNil))) (aCons (fC (.int 10)) aNil))))))
    (fSeq (fSet 5 (fVal (aLst (aCons (fVar 3) (aCons (fTup (aCons (fC (.str "not")) (aCons (fTup (aCons (fC (.str "not")) (aCons (fVar 1) aNil))) aNil))) (aCons (fTup (aCons (fC (.str "if")) (aCons (fTup (aCons (fC (.str "not")) (aCons (fVar 1) aNil))) (aCons (fTup (aCons (fC (.str "no")) aNil)) aNil)))) (aCons (fTup (aCons (fC (.str "and")) (aCons (fVar 1) (aCons (fVar 3) aNil)))) aNil)))))))
    (fSeq (fFor (aOver lstV (fVar 5)) (gN 6) (fSeq (fSet 7 (fCall 2 (c i_same) (aCons (fVar 1) (aCons (fVar 6) aNil))))
    (fIfS (fOr (fNot (fTru (fA isiC (aCons (fVar 7) (aCons (fC (.ty "bool")) aNil))))) (fB (f2 neU (fVar 7) (fCall 3 (c i_law_alike) (aCons (fVar 1) (aCons (fVar 6) (aCons (fSl (fVar 2) oNone (oSome (fC (.int 5)))) aNil))))))) (fRet (fC (.bl false))) fNop)))
    (fRet (fC (.bl true))))))))
def b_law (c : Nat → List U → Sto → R U) : FS :=
  (fSeq (fSet 1 (fCall 1 (c i_law_tape) (aCons (fVar 0) aNil)))
    (fSeq (fSet 2 (fCall 2 (c i_law_words) (aCons (fVar 1) (aCons (fC (.int 12)) aNil))))
    (fSeq (fIfS (fNot (fTru (fCall 1 (c i_law_bare_right) (aCons (fVar 1) aNil)))) (fRet (fC (.bl false))) fNop)
    (fSeq (fFor (aRng1 (aCons (fC (.int 4)) aNil)) (gN 3) (fSeq (fSet 4 (fCall 4 (c i_law_saying) (aCons (fVar 1) (aCons (fSl (fVar 2) oNone (oSome (fC (.int 5)))) (aCons (fLoc (aLst (aCons (f2 ixU (fVal (aLst (aCons (fC (.int 6)) (aCons (fC (.int 40)) aNil)))) (fCall 2 (c i_law_draw) (aCons (fVar 1) (aCons (fC (.int 2)) aNil)))) aNil))) (aCons (fC (.int 10)) aNil))))))
    (fSeq (fSet 5 (f2 ixU (fVal (aLst (aCons (fC (.int 5)) (aCons (fC (.int 5)) (aCons (fC (.int 12)) (aCons (f2 addU (fC (.int 1)) (fCall 2 (c i_law_draw) (aCons (fVar 1) (aCons (fC (.int 6)) aNil)))) aNil)))))) (fCall 2 (c i_law_draw) (aCons (fVar 1) (aCons (fC (.int 4)) aNil)))))
    (fSeq (fSet 6 (fCall 2 (c i_law_draw) (aCons (fVar 1) (aCons (fC (.int 12)) aNil))))
    (fSeq (fSet 7 (fVal (aStep (f2 addU (fSl (fSl (fVar 2) oNone (oSome (fVar 5))) (oSome (fVar 6)) oNone) (fSl (fSl (fVar 2) oNone (oSome (fVar 5))) oNone (oSome (fVar 6)))) (f2 ixU (fVal (aLst (aCons (fC (.int 1)) (aCons (f1 negU (fC (.int 1))) aNil)))) (fCall 2 (c i_law_draw) (aCons (fVar 1) (aCons (fC (.int 2)) aNil)))))))
    (fSeq (fSet 8 (fVal (aComp (aOver lstV (fCall 1 (c i_names_of) (aCons (fVar 4) aNil))) (gN 10) (fB (f2 ninU (fVar 10) (fVar 7))) (fVar 10) [10])))
    (fSeq (fSet 9 (fCall 2 (c i_law_told) (aCons (fVar 4) (aCons (fVal (fA listC (aCons (fVar 7) aNil))) aNil))))
    (fSeq (fIfS (fB (f2 neU (fVar 8) (fVal (aLst aNil)))) (fIfS (fB (f2 neU (fVar 9) (fTup (aCons (f2 ixU (fVar 8) (fC (.int 0))) aNil)))) (fRet (fC (.bl false))) fNop) (fIfS (fOr (fTru (fA isiC (aCons (fVar 9) (aCons (fC (.ty "bool")) aNil)))) (fOr (fNot (fTru (fA isiC (aCons (fVar 9) (aCons (fC (.ty "int")) aNil))))) (fNot (fB (fCh leU ltU (fC (.int 0)) (fVar 9) (f2 shlU (fC (.int 1)) (f2 shlU (fC (.int 1)) (fVar 5)))))))) (fRet (fC (.bl false))) (fSeq (fSet 11 (fIf (fB (f2 ltU (fVar 5) (fC (.int 7)))) (fVal (aLRg (f2 shlU (fC (.int 1)) (fVar 5)))) (f2 addU (fVal (aComp (aRng1 (aCons (fC (.int 40)) aNil)) (gN 13) fYes (fCall 2 (c i_law_draw) (aCons (fVar 1) (aCons (fC (.int 4096)) aNil))) [13])) (fVal (aLst (aCons (fC (.int 0)) (aCons (fC (.int 4095)) aNil)))))))
    (fFor (aOver lstV (fVar 11)) (gN 12) (fIfS (fB (f2 neU (f2 eqU (f2 andU (f2 shrU (fVar 9) (fVar 12)) (fC (.int 1))) (fC (.int 1))) (fCall 2 (c i_law_value) (aCons (fVar 4) (aCons (fCall 2 (c i_law_row) (aCons (fVar 7) (aCons (fVar 12) aNil))) aNil))))) (fRet (fC (.bl false))) fNop)))))
    (fIfS (fNot (fTru (fCall 3 (c i_law_sames_right) (aCons (fVar 1) (aCons (fVar 4) (aCons (fVar 2) aNil)))))) (fRet (fC (.bl false))) fNop)))))))))
    (fRet (fC (.bl true)))))))
def bodies (c : Nat → List U → Sto → R U) : Nat → FS
  | 0 => b_collect c
  | 1 => b_names_of c
  | 2 => b_need_names c
  | 3 => b_full_of c
  | 4 => b_table_of_name c
  | 5 => b_joined_tables c
  | 6 => b_table_in c
  | 7 => b_table c
  | 8 => b_same c
  | 9 => b_law_tape c
  | 10 => b_law_draw c
  | 11 => b_law_words c
  | 12 => b_law_saying c
  | 13 => b_law_value c
  | 14 => b_law_row c
  | 15 => b_law_told c
  | 16 => b_law_alike c
  | 17 => b_law_but_one c
  | 18 => b_law_bare_right c
  | 19 => b_law_sames_right c
  | 20 => b_law c
  | _ => fNever
def slots : Nat → Nat
  | 0 => 3
  | 1 => 2
  | 2 => 3
  | 3 => 1
  | 4 => 5
  | 5 => 3
  | 6 => 4
  | 7 => 6
  | 8 => 3
  | 9 => 1
  | 10 => 9
  | 11 => 11
  | 12 => 7
  | 13 => 5
  | 14 => 3
  | 15 => 5
  | 16 => 6
  | 17 => 7
  | 18 => 3
  | 19 => 8
  | 20 => 14
  | _ => 0
def call : Nat → Nat → List U → Sto → R U
  | 0, _, _, _ => .bad
  | k + 1, i, us, S => runB (bodies (call k) i) (enStart (slots i) us) S
end
set_option maxHeartbeats 0 in
structure Txt (w : World) (K : PySem.W.Frag) (mg : Str → Option Value) where
  a_collect : Addr
  fd_collect : FuncData
  F_collect : Fun K "collect" "collect" s_collect a_collect fd_collect
  m_collect : mg "collect" = some (.ref a_collect)
  b_collect : Binds K fd_collect ["saying", "found"] []
  a_names_of : Addr
  fd_names_of : FuncData
  F_names_of : Fun K "names_of" "names_of" s_names_of a_names_of fd_names_of
  m_names_of : mg "names_of" = some (.ref a_names_of)
  b_names_of : Binds K fd_names_of ["saying"] []
  a_need_names : Addr
  fd_need_names : FuncData
  F_need_names : Fun K "need_names" "need_names" s_need_names a_need_names fd_need_names
  m_need_names : mg "need_names" = some (.ref a_need_names)
  b_need_names : Binds K fd_need_names ["names", "row"] []
  a_full_of : Addr
  fd_full_of : FuncData
  F_full_of : Fun K "full_of" "full_of" s_full_of a_full_of fd_full_of
  m_full_of : mg "full_of" = some (.ref a_full_of)
  b_full_of : Binds K fd_full_of ["many"] []
  a_table_of_name : Addr
  fd_table_of_name : FuncData
  F_table_of_name : Fun K "table_of_name" "table_of_name" s_table_of_name a_table_of_name fd_table_of_name
  m_table_of_name : mg "table_of_name" = some (.ref a_table_of_name)
  b_table_of_name : Binds K fd_table_of_name ["place", "many"] []
  a_joined_tables : Addr
  fd_joined_tables : FuncData
  F_joined_tables : Fun K "joined_tables" "joined_tables" s_joined_tables a_joined_tables fd_joined_tables
  m_joined_tables : mg "joined_tables" = some (.ref a_joined_tables)
  b_joined_tables : Binds K fd_joined_tables ["word", "some", "full"] []
  a_table_in : Addr
  fd_table_in : FuncData
  F_table_in : Fun K "table_in" "table_in" s_table_in a_table_in fd_table_in
  m_table_in : mg "table_in" = some (.ref a_table_in)
  b_table_in : Binds K fd_table_in ["saying", "tables", "full"] []
  a_table : Addr
  fd_table : FuncData
  F_table : Fun K "table" "table" s_table a_table fd_table
  m_table : mg "table" = some (.ref a_table)
  b_table : Binds K fd_table ["saying", "names"] []
  a_same : Addr
  fd_same : FuncData
  F_same : Fun K "same" "same" s_same a_same fd_same
  m_same : mg "same" = some (.ref a_same)
  b_same : Binds K fd_same ["saying", "other"] []
  a__law_tape : Addr
  fd__law_tape : FuncData
  F__law_tape : Fun K "_law_tape" "_law_tape" s_law_tape a__law_tape fd__law_tape
  m__law_tape : mg "_law_tape" = some (.ref a__law_tape)
  b__law_tape : Binds K fd__law_tape ["_law_script"] []
  a__law_draw : Addr
  fd__law_draw : FuncData
  F__law_draw : Fun K "_law_draw" "_law_draw" s_law_draw a__law_draw fd__law_draw
  m__law_draw : mg "_law_draw" = some (.ref a__law_draw)
  b__law_draw : Binds K fd__law_draw ["_law_tape_here", "_law_many"] []
  a__law_words : Addr
  fd__law_words : FuncData
  F__law_words : Fun K "_law_words" "_law_words" s_law_words a__law_words fd__law_words
  m__law_words : mg "_law_words" = some (.ref a__law_words)
  b__law_words : Binds K fd__law_words ["_law_tape_here", "_law_many"] []
  a__law_saying : Addr
  fd__law_saying : FuncData
  F__law_saying : Fun K "_law_saying" "_law_saying" s_law_saying a__law_saying fd__law_saying
  m__law_saying : mg "_law_saying" = some (.ref a__law_saying)
  b__law_saying : Binds K fd__law_saying ["_law_tape_here", "_law_names", "_law_left", "_law_deep"] []
  a__law_value : Addr
  fd__law_value : FuncData
  F__law_value : Fun K "_law_value" "_law_value" s_law_value a__law_value fd__law_value
  m__law_value : mg "_law_value" = some (.ref a__law_value)
  b__law_value : Binds K fd__law_value ["_law_saying_here", "_law_row_here"] []
  a__law_row : Addr
  fd__law_row : FuncData
  F__law_row : Fun K "_law_row" "_law_row" s_law_row a__law_row fd__law_row
  m__law_row : mg "_law_row" = some (.ref a__law_row)
  b__law_row : Binds K fd__law_row ["_law_names", "_law_number"] []
  a__law_told : Addr
  fd__law_told : FuncData
  F__law_told : Fun K "_law_told" "_law_told" s_law_told a__law_told fd__law_told
  m__law_told : mg "_law_told" = some (.ref a__law_told)
  b__law_told : Binds K fd__law_told ["_law_saying_here", "_law_names"] []
  a__law_alike : Addr
  fd__law_alike : FuncData
  F__law_alike : Fun K "_law_alike" "_law_alike" s_law_alike a__law_alike fd__law_alike
  m__law_alike : mg "_law_alike" = some (.ref a__law_alike)
  b__law_alike : Binds K fd__law_alike ["_law_one", "_law_other", "_law_names"] []
  a__law_but_one : Addr
  fd__law_but_one : FuncData
  F__law_but_one : Fun K "_law_but_one" "_law_but_one" s_law_but_one a__law_but_one fd__law_but_one
  m__law_but_one : mg "_law_but_one" = some (.ref a__law_but_one)
  b__law_but_one : Binds K fd__law_but_one ["_law_tape_here", "_law_saying_here", "_law_names"] []
  a__law_bare_right : Addr
  fd__law_bare_right : FuncData
  F__law_bare_right : Fun K "_law_bare_right" "_law_bare_right" s_law_bare_right a__law_bare_right fd__law_bare_right
  m__law_bare_right : mg "_law_bare_right" = some (.ref a__law_bare_right)
  b__law_bare_right : Binds K fd__law_bare_right ["_law_tape_here"] []
  a__law_sames_right : Addr
  fd__law_sames_right : FuncData
  F__law_sames_right : Fun K "_law_sames_right" "_law_sames_right" s_law_sames_right a__law_sames_right fd__law_sames_right
  m__law_sames_right : mg "_law_sames_right" = some (.ref a__law_sames_right)
  b__law_sames_right : Binds K fd__law_sames_right ["_law_tape_here", "_law_saying_here", "_law_names"] []
  a_law : Addr
  fd_law : FuncData
  F_law : Fun K "law" "law" s_law a_law fd_law
  m_law : mg "law" = some (.ref a_law)
  b_law : Binds K fd_law ["_law_script"] []
  C_NoName : Addr
  I_NoName : Addr
  fi_NoName : FuncData
  x_NoName : XC K mg "NoName" "name" "name" C_NoName I_NoName fi_NoName sx_NoName "LookupError.__new__" [.type "KeyError", .type "LookupError", .type "Exception", .type "BaseException", .type "object"]
  vb_KeyError : PySem.W.findCls K (.type "KeyError") (.type "type") "__init__" = some (.val (.builtin "KeyError.__init__"))
  cat_NoName : exB K (.ref C_NoName) [(C_NoName, true)] = true
  z_KeyError : mg "KeyError" = none
  z_bool : mg "bool" = none
  z_dict : mg "dict" = none
  z_enumerate : mg "enumerate" = none
  z_int : mg "int" = none
  z_isinstance : mg "isinstance" = none
  z_len : mg "len" = none
  z_list : mg "list" = none
  z_min : mg "min" = none
  z_range : mg "range" = none
  z_set : mg "set" = none
  z_sorted : mg "sorted" = none
section
variable {P : Program} {w : World} {K : PySem.W.Frag} {mg : Str → Option Value} {base : Heap}
theorem xi_NoName (T : Txt w K mg) : FnOk P w K mg base (L2.CX P w) 1 T.I_NoName T.fi_NoName ["self", "name"] (spI T.C_NoName "name") := by
  refine T.x_NoName.fi.okX scx_NoName (fun vs H Q E h => ?_) fun cdv A outer s H vs Q E hr h => ?_
  · obtain ⟨a, y, rfl, _⟩ := h; rfl
  · refine ⟨_, pss_cons (ps_expr (pe_binit bx_KeyError T.x_NoName.ox rfl T.z_KeyError T.vb_KeyError (pa_cons (pv 0) (pa_cons pe_str pa_nil)))) (pss_one (ps_oset bx_KeyError T.x_NoName.ox T.x_NoName.nf (pv 0) (pv 1))), ?_⟩
    obtain ⟨a, y, rfl, ha, q⟩ := h
    exact ⟨.ref a, rfl, a, _, rfl, (by show 1 ≤ 1000; decide), ha, y, rfl, .ref a, rfl, a, rfl, ha, fun dx n ne => q dx n ne⟩
theorem xk_NoName (T : Txt w K mg) : ExcOk P w K mg base 1 "NoName" "name" := ⟨T.C_NoName, T.I_NoName, "name", T.fi_NoName, "KeyError", "LookupError", "LookupError.__new__", "KeyError.__init__", _, bx_KeyError, T.x_NoName.ox, T.x_NoName.ic, T.x_NoName.ti, xi_NoName T, T.x_NoName.bi, T.x_NoName.mc⟩
theorem fld_name (T : Txt w K mg) : ∀ c ∈ (["NoName"] : List Str), ∀ C, mg c = some (.ref C) → XfC K C ∧ PySem.W.findIn K (.ref C) "name" = some none := by
  intro c hc C hm
  simp only [List.mem_cons, List.mem_nil_iff, or_false] at hc
  rcases hc with rfl
  · have e := T.x_NoName.mc.symm.trans hm; cases e; exact ⟨T.x_NoName.xf, T.x_NoName.nf⟩
theorem exk_NoName (T : Txt w K mg) : ExOk K mg (.ref T.C_NoName) (lookM ex_NoName) := (ExOk.o T.x_NoName.mc ExOk.n) T.cat_NoName
set_option maxHeartbeats 0 in
structure Oks (P : Program) (base : Heap) (T : Txt w K mg) (k : Nat) : Prop where
  o_collect : FnOk P w K mg base (L2.CX P w) (k + 2) T.a_collect T.fd_collect ["saying", "found"] (spOf ⟨K, mg, P, w⟩ 2 (call k i_collect))
  o_names_of : FnOk P w K mg base (L2.CX P w) (k + 2) T.a_names_of T.fd_names_of ["saying"] (spOf ⟨K, mg, P, w⟩ 1 (call k i_names_of))
  o_need_names : FnOk P w K mg base (L2.CX P w) (k + 2) T.a_need_names T.fd_need_names ["names", "row"] (spOf ⟨K, mg, P, w⟩ 2 (call k i_need_names))
  o_full_of : FnOk P w K mg base (L2.CX P w) (k + 2) T.a_full_of T.fd_full_of ["many"] (spOf ⟨K, mg, P, w⟩ 1 (call k i_full_of))
  o_table_of_name : FnOk P w K mg base (L2.CX P w) (k + 2) T.a_table_of_name T.fd_table_of_name ["place", "many"] (spOf ⟨K, mg, P, w⟩ 2 (call k i_table_of_name))
  o_joined_tables : FnOk P w K mg base (L2.CX P w) (k + 2) T.a_joined_tables T.fd_joined_tables ["word", "some", "full"] (spOf ⟨K, mg, P, w⟩ 3 (call k i_joined_tables))
  o_table_in : FnOk P w K mg base (L2.CX P w) (k + 2) T.a_table_in T.fd_table_in ["saying", "tables", "full"] (spOf ⟨K, mg, P, w⟩ 3 (call k i_table_in))
  o_table : FnOk P w K mg base (L2.CX P w) (k + 2) T.a_table T.fd_table ["saying", "names"] (spOf ⟨K, mg, P, w⟩ 2 (call k i_table))
  o_same : FnOk P w K mg base (L2.CX P w) (k + 2) T.a_same T.fd_same ["saying", "other"] (spOf ⟨K, mg, P, w⟩ 2 (call k i_same))
  o__law_tape : FnOk P w K mg base (L2.CX P w) (k + 2) T.a__law_tape T.fd__law_tape ["_law_script"] (spOf ⟨K, mg, P, w⟩ 1 (call k i_law_tape))
  o__law_draw : FnOk P w K mg base (L2.CX P w) (k + 2) T.a__law_draw T.fd__law_draw ["_law_tape_here", "_law_many"] (spOf ⟨K, mg, P, w⟩ 2 (call k i_law_draw))
  o__law_words : FnOk P w K mg base (L2.CX P w) (k + 2) T.a__law_words T.fd__law_words ["_law_tape_here", "_law_many"] (spOf ⟨K, mg, P, w⟩ 2 (call k i_law_words))
  o__law_saying : FnOk P w K mg base (L2.CX P w) (k + 2) T.a__law_saying T.fd__law_saying ["_law_tape_here", "_law_names", "_law_left", "_law_deep"] (spOf ⟨K, mg, P, w⟩ 4 (call k i_law_saying))
  o__law_value : FnOk P w K mg base (L2.CX P w) (k + 2) T.a__law_value T.fd__law_value ["_law_saying_here", "_law_row_here"] (spOf ⟨K, mg, P, w⟩ 2 (call k i_law_value))
  o__law_row : FnOk P w K mg base (L2.CX P w) (k + 2) T.a__law_row T.fd__law_row ["_law_names", "_law_number"] (spOf ⟨K, mg, P, w⟩ 2 (call k i_law_row))
  o__law_told : FnOk P w K mg base (L2.CX P w) (k + 2) T.a__law_told T.fd__law_told ["_law_saying_here", "_law_names"] (spOf ⟨K, mg, P, w⟩ 2 (call k i_law_told))
  o__law_alike : FnOk P w K mg base (L2.CX P w) (k + 2) T.a__law_alike T.fd__law_alike ["_law_one", "_law_other", "_law_names"] (spOf ⟨K, mg, P, w⟩ 3 (call k i_law_alike))
  o__law_but_one : FnOk P w K mg base (L2.CX P w) (k + 2) T.a__law_but_one T.fd__law_but_one ["_law_tape_here", "_law_saying_here", "_law_names"] (spOf ⟨K, mg, P, w⟩ 3 (call k i_law_but_one))
  o__law_bare_right : FnOk P w K mg base (L2.CX P w) (k + 2) T.a__law_bare_right T.fd__law_bare_right ["_law_tape_here"] (spOf ⟨K, mg, P, w⟩ 1 (call k i_law_bare_right))
  o__law_sames_right : FnOk P w K mg base (L2.CX P w) (k + 2) T.a__law_sames_right T.fd__law_sames_right ["_law_tape_here", "_law_saying_here", "_law_names"] (spOf ⟨K, mg, P, w⟩ 3 (call k i_law_sames_right))
  o_law : FnOk P w K mg base (L2.CX P w) (k + 2) T.a_law T.fd_law ["_law_script"] (spOf ⟨K, mg, P, w⟩ 1 (call k i_law))
set_option maxHeartbeats 4000000 in
theorem sim_collect {k : Nat} (T : Txt w K mg) (O : Oks P base T k) (cdv : Value) (A : Around) (outer : List Env) (s : Shared) (H : Hp) (E : XK) (hr : Room (k + 2) (A.deeper (PyProof.Rows.envOfC "collect" (defScope s_collect) s.heap.objs.size T.a_collect cdv))) :
    SimB (cxOf (L2.CX P w) P w K mg base n_collect "collect" (defScope s_collect) T.a_collect cdv A outer s H E) (fun cls d _ H2 => E cls d H2) (defBody s_collect) (b_collect (call k)) := by
  have nd := sc_collect.nd
  have hk : Room (k + 2) (A.deeper (PyProof.Rows.envOfC "collect" (defScope s_collect) s.heap.objs.size T.a_collect cdv)) := hr.mono (by omega)
  have hu66 := hr.un
  have hu64 : (A.deeper (PyProof.Rows.envOfC "collect" (defScope s_collect) s.heap.objs.size T.a_collect cdv)).units + 64 < cLine := by omega
  have hu1 : (A.deeper (PyProof.Rows.envOfC "collect" (defScope s_collect) s.heap.objs.size T.a_collect cdv)).units + 1 < cLine := by omega
  have hu67 : (A.deeper (PyProof.Rows.envOfC "collect" (defScope s_collect) s.heap.objs.size T.a_collect cdv)).units + 67 < cLine := by omega
  replace hu66 : (A.deeper (PyProof.Rows.envOfC "collect" (defScope s_collect) s.heap.objs.size T.a_collect cdv)).units + 66 < cLine := by omega
  exact (sb_one (ss_if (st_cmp (os_eq hu64) noX_eq (se_ix hu1 (se_var 0) se_int) se_str (nomark _)) (sb_one (ss_store hu1 se_bl (se_var 1) (se_ix hu1 (se_var 0) se_int))) (sb_one (ss_for (passes_of rfl) rfl (si_tup (se_slice (se_var 0) (so_some se_int) so_none)) (sg_name 2 nd rfl (by first | exact Or.inl rfl | exact Or.inr rfl)) (sb_one (ss_expr (se_call (O.o_collect) hk (pas_of (takes_of rfl rfl rfl rfl)) rfl T.m_collect T.F_collect.kp T.b_collect (sa_cons (se_var 2) (sa_cons (se_var 1) sa_nil)))))))))
set_option maxHeartbeats 4000000 in
theorem sim_names_of {k : Nat} (T : Txt w K mg) (O : Oks P base T k) (cdv : Value) (A : Around) (outer : List Env) (s : Shared) (H : Hp) (E : XK) (hr : Room (k + 2) (A.deeper (PyProof.Rows.envOfC "names_of" (defScope s_names_of) s.heap.objs.size T.a_names_of cdv))) :
    SimB (cxOf (L2.CX P w) P w K mg base n_names_of "names_of" (defScope s_names_of) T.a_names_of cdv A outer s H E) (fun cls d _ H2 => E cls d H2) (defBody s_names_of) (b_names_of (call k)) := by
  have nd := sc_names_of.nd
  have hk : Room (k + 2) (A.deeper (PyProof.Rows.envOfC "names_of" (defScope s_names_of) s.heap.objs.size T.a_names_of cdv)) := hr.mono (by omega)
  have hu66 := hr.un
  have hu64 : (A.deeper (PyProof.Rows.envOfC "names_of" (defScope s_names_of) s.heap.objs.size T.a_names_of cdv)).units + 64 < cLine := by omega
  have hu1 : (A.deeper (PyProof.Rows.envOfC "names_of" (defScope s_names_of) s.heap.objs.size T.a_names_of cdv)).units + 1 < cLine := by omega
  have hu67 : (A.deeper (PyProof.Rows.envOfC "names_of" (defScope s_names_of) s.heap.objs.size T.a_names_of cdv)).units + 67 < cLine := by omega
  replace hu66 : (A.deeper (PyProof.Rows.envOfC "names_of" (defScope s_names_of) s.heap.objs.size T.a_names_of cdv)).units + 66 < cLine := by omega
  exact (sb_cons (ss_set 1 nd rfl (by first | exact Or.inl rfl | exact Or.inr rfl) (SimD.loc sd_new))
    (sb_cons (ss_expr (se_call (O.o_collect) hk (pas_of (takes_of rfl rfl rfl rfl)) rfl T.m_collect T.F_collect.kp T.b_collect (sa_cons (se_var 0) (sa_cons (se_var 1) sa_nil))))
    (sb_one (ss_ret (SimL.val (sl_callB (cl_sortedW rfl hu64) rfl T.z_sorted (by decide +kernel) (sa_cons (se_var 1) sa_nil)))))))
set_option maxHeartbeats 4000000 in
theorem sim_need_names {k : Nat} (T : Txt w K mg) (O : Oks P base T k) (cdv : Value) (A : Around) (outer : List Env) (s : Shared) (H : Hp) (E : XK) (hr : Room (k + 2) (A.deeper (PyProof.Rows.envOfC "need_names" (defScope s_need_names) s.heap.objs.size T.a_need_names cdv))) :
    SimB (cxOf (L2.CX P w) P w K mg base n_need_names "need_names" (defScope s_need_names) T.a_need_names cdv A outer s H E) (fun cls d _ H2 => E cls d H2) (defBody s_need_names) (b_need_names (call k)) := by
  have nd := sc_need_names.nd
  have hk : Room (k + 2) (A.deeper (PyProof.Rows.envOfC "need_names" (defScope s_need_names) s.heap.objs.size T.a_need_names cdv)) := hr.mono (by omega)
  have hu66 := hr.un
  have hu64 : (A.deeper (PyProof.Rows.envOfC "need_names" (defScope s_need_names) s.heap.objs.size T.a_need_names cdv)).units + 64 < cLine := by omega
  have hu1 : (A.deeper (PyProof.Rows.envOfC "need_names" (defScope s_need_names) s.heap.objs.size T.a_need_names cdv)).units + 1 < cLine := by omega
  have hu67 : (A.deeper (PyProof.Rows.envOfC "need_names" (defScope s_need_names) s.heap.objs.size T.a_need_names cdv)).units + 67 < cLine := by omega
  replace hu66 : (A.deeper (PyProof.Rows.envOfC "need_names" (defScope s_need_names) s.heap.objs.size T.a_need_names cdv)).units + 66 < cLine := by omega
  exact (sb_one (ss_for (passes_of rfl) rfl (si_list (se_var 0)) (sg_name 2 nd rfl (by first | exact Or.inl rfl | exact Or.inr rfl)) (sb_one (ss_if (st_cmp (os_nin hu66) noX_nin (se_var 2) (se_var 1) (by rfl)) (sb_one (ss_raise (xk_NoName T) (hr.mono (by omega)) rfl (takes_of rfl rfl rfl rfl) rfl (sa_cons (se_var 2) sa_nil))) sb_nil))))
set_option maxHeartbeats 4000000 in
theorem sim_full_of {k : Nat} (T : Txt w K mg) (O : Oks P base T k) (cdv : Value) (A : Around) (outer : List Env) (s : Shared) (H : Hp) (E : XK) (hr : Room (k + 2) (A.deeper (PyProof.Rows.envOfC "full_of" (defScope s_full_of) s.heap.objs.size T.a_full_of cdv))) :
    SimB (cxOf (L2.CX P w) P w K mg base n_full_of "full_of" (defScope s_full_of) T.a_full_of cdv A outer s H E) (fun cls d _ H2 => E cls d H2) (defBody s_full_of) (b_full_of (call k)) := by
  have nd := sc_full_of.nd
  have hk : Room (k + 2) (A.deeper (PyProof.Rows.envOfC "full_of" (defScope s_full_of) s.heap.objs.size T.a_full_of cdv)) := hr.mono (by omega)
  have hu66 := hr.un
  have hu64 : (A.deeper (PyProof.Rows.envOfC "full_of" (defScope s_full_of) s.heap.objs.size T.a_full_of cdv)).units + 64 < cLine := by omega
  have hu1 : (A.deeper (PyProof.Rows.envOfC "full_of" (defScope s_full_of) s.heap.objs.size T.a_full_of cdv)).units + 1 < cLine := by omega
  have hu67 : (A.deeper (PyProof.Rows.envOfC "full_of" (defScope s_full_of) s.heap.objs.size T.a_full_of cdv)).units + 67 < cLine := by omega
  replace hu66 : (A.deeper (PyProof.Rows.envOfC "full_of" (defScope s_full_of) s.heap.objs.size T.a_full_of cdv)).units + 66 < cLine := by omega
  exact (sb_one (ss_ret (se_op os_sub noX_sub (se_op os_shl noX_shl se_int (se_op os_shl noX_shl se_int (se_var 0))) se_int)))
set_option maxHeartbeats 4000000 in
theorem sim_table_of_name {k : Nat} (T : Txt w K mg) (O : Oks P base T k) (cdv : Value) (A : Around) (outer : List Env) (s : Shared) (H : Hp) (E : XK) (hr : Room (k + 2) (A.deeper (PyProof.Rows.envOfC "table_of_name" (defScope s_table_of_name) s.heap.objs.size T.a_table_of_name cdv))) :
    SimB (cxOf (L2.CX P w) P w K mg base n_table_of_name "table_of_name" (defScope s_table_of_name) T.a_table_of_name cdv A outer s H E) (fun cls d _ H2 => E cls d H2) (defBody s_table_of_name) (b_table_of_name (call k)) := by
  have nd := sc_table_of_name.nd
  have hk : Room (k + 2) (A.deeper (PyProof.Rows.envOfC "table_of_name" (defScope s_table_of_name) s.heap.objs.size T.a_table_of_name cdv)) := hr.mono (by omega)
  have hu66 := hr.un
  have hu64 : (A.deeper (PyProof.Rows.envOfC "table_of_name" (defScope s_table_of_name) s.heap.objs.size T.a_table_of_name cdv)).units + 64 < cLine := by omega
  have hu1 : (A.deeper (PyProof.Rows.envOfC "table_of_name" (defScope s_table_of_name) s.heap.objs.size T.a_table_of_name cdv)).units + 1 < cLine := by omega
  have hu67 : (A.deeper (PyProof.Rows.envOfC "table_of_name" (defScope s_table_of_name) s.heap.objs.size T.a_table_of_name cdv)).units + 67 < cLine := by omega
  replace hu66 : (A.deeper (PyProof.Rows.envOfC "table_of_name" (defScope s_table_of_name) s.heap.objs.size T.a_table_of_name cdv)).units + 66 < cLine := by omega
  exact (sb_cons (ss_set 2 nd rfl (by first | exact Or.inl rfl | exact Or.inr rfl) (se_op os_shl noX_shl se_int (se_var 0)))
    (sb_cons (ss_set 3 nd rfl (by first | exact Or.inl rfl | exact Or.inr rfl) (se_op os_shlG noX_shlG (se_op os_sub noX_sub (se_op os_shl noX_shl se_int (se_var 2)) se_int) (se_var 2)))
    (sb_cons (ss_set 4 nd rfl (by first | exact Or.inl rfl | exact Or.inr rfl) (se_op os_mul noX_mul se_int (se_var 2)))
    (sb_cons (ss_while 1000000 (passes_of rfl) (st_cmp os_lt noX_lt (se_var 4) (se_op os_shl noX_shl se_int (se_var 1)) (nomark _)) (sb_cons (ss_set 3 nd rfl (by first | exact Or.inl rfl | exact Or.inr rfl) (se_op os_or noX_or (se_var 3) (se_op os_shlG noX_shlG (se_var 3) (se_var 4))))
    (sb_one (ss_set 4 nd rfl (by first | exact Or.inl rfl | exact Or.inr rfl) (se_op os_mul noX_mul se_int (se_var 4))))))
    (sb_one (ss_ret (se_var 3)))))))
set_option maxHeartbeats 4000000 in
theorem sim_joined_tables {k : Nat} (T : Txt w K mg) (O : Oks P base T k) (cdv : Value) (A : Around) (outer : List Env) (s : Shared) (H : Hp) (E : XK) (hr : Room (k + 2) (A.deeper (PyProof.Rows.envOfC "joined_tables" (defScope s_joined_tables) s.heap.objs.size T.a_joined_tables cdv))) :
    SimB (cxOf (L2.CX P w) P w K mg base n_joined_tables "joined_tables" (defScope s_joined_tables) T.a_joined_tables cdv A outer s H E) (fun cls d _ H2 => E cls d H2) (defBody s_joined_tables) (b_joined_tables (call k)) := by
  have nd := sc_joined_tables.nd
  have hk : Room (k + 2) (A.deeper (PyProof.Rows.envOfC "joined_tables" (defScope s_joined_tables) s.heap.objs.size T.a_joined_tables cdv)) := hr.mono (by omega)
  have hu66 := hr.un
  have hu64 : (A.deeper (PyProof.Rows.envOfC "joined_tables" (defScope s_joined_tables) s.heap.objs.size T.a_joined_tables cdv)).units + 64 < cLine := by omega
  have hu1 : (A.deeper (PyProof.Rows.envOfC "joined_tables" (defScope s_joined_tables) s.heap.objs.size T.a_joined_tables cdv)).units + 1 < cLine := by omega
  have hu67 : (A.deeper (PyProof.Rows.envOfC "joined_tables" (defScope s_joined_tables) s.heap.objs.size T.a_joined_tables cdv)).units + 67 < cLine := by omega
  replace hu66 : (A.deeper (PyProof.Rows.envOfC "joined_tables" (defScope s_joined_tables) s.heap.objs.size T.a_joined_tables cdv)).units + 66 < cLine := by omega
  exact (sb_cons (ss_if (st_cmp (os_eq hu64) noX_eq (se_var 0) se_str (nomark _)) (sb_one (ss_ret (se_var 2))) sb_nil)
    (sb_cons (ss_if (st_cmp (os_eq hu64) noX_eq (se_var 0) se_str (nomark _)) (sb_one (ss_ret se_int)) sb_nil)
    (sb_cons (ss_if (st_cmp (os_eq hu64) noX_eq (se_var 0) se_str (nomark _)) (sb_one (ss_ret (se_op os_xor noX_xor (se_var 2) (se_ix hu1 (se_var 1) se_int)))) sb_nil)
    (sb_cons (ss_if (st_cmp (os_eq hu64) noX_eq (se_var 0) se_str (nomark _)) (sb_one (ss_ret (se_op os_and noX_and (se_ix hu1 (se_var 1) se_int) (se_ix hu1 (se_var 1) se_int)))) sb_nil)
    (sb_cons (ss_if (st_cmp (os_eq hu64) noX_eq (se_var 0) se_str (nomark _)) (sb_one (ss_ret (se_op os_or noX_or (se_ix hu1 (se_var 1) se_int) (se_ix hu1 (se_var 1) se_int)))) sb_nil)
    (sb_cons (ss_if (st_cmp (os_eq hu64) noX_eq (se_var 0) se_str (nomark _)) (sb_one (ss_ret (se_op os_or noX_or (se_op os_xor noX_xor (se_var 2) (se_ix hu1 (se_var 1) se_int)) (se_ix hu1 (se_var 1) se_int)))) sb_nil)
    (sb_one (ss_ret (se_op os_xor noX_xor (se_op os_xor noX_xor (se_var 2) (se_ix hu1 (se_var 1) se_int)) (se_ix hu1 (se_var 1) se_int))))))))))
set_option maxHeartbeats 4000000 in
theorem sim_table_in {k : Nat} (T : Txt w K mg) (O : Oks P base T k) (cdv : Value) (A : Around) (outer : List Env) (s : Shared) (H : Hp) (E : XK) (hr : Room (k + 2) (A.deeper (PyProof.Rows.envOfC "table_in" (defScope s_table_in) s.heap.objs.size T.a_table_in cdv))) :
    SimB (cxOf (L2.CX P w) P w K mg base n_table_in "table_in" (defScope s_table_in) T.a_table_in cdv A outer s H E) (fun cls d _ H2 => E cls d H2) (defBody s_table_in) (b_table_in (call k)) := by
  have nd := sc_table_in.nd
  have hk : Room (k + 2) (A.deeper (PyProof.Rows.envOfC "table_in" (defScope s_table_in) s.heap.objs.size T.a_table_in cdv)) := hr.mono (by omega)
  have hu66 := hr.un
  have hu64 : (A.deeper (PyProof.Rows.envOfC "table_in" (defScope s_table_in) s.heap.objs.size T.a_table_in cdv)).units + 64 < cLine := by omega
  have hu1 : (A.deeper (PyProof.Rows.envOfC "table_in" (defScope s_table_in) s.heap.objs.size T.a_table_in cdv)).units + 1 < cLine := by omega
  have hu67 : (A.deeper (PyProof.Rows.envOfC "table_in" (defScope s_table_in) s.heap.objs.size T.a_table_in cdv)).units + 67 < cLine := by omega
  replace hu66 : (A.deeper (PyProof.Rows.envOfC "table_in" (defScope s_table_in) s.heap.objs.size T.a_table_in cdv)).units + 66 < cLine := by omega
  exact (sb_cons (ss_if (st_cmp (os_eq hu64) noX_eq (se_ix hu1 (se_var 0) se_int) se_str (nomark _)) (sb_one (ss_ret (se_ix hu1 (se_var 1) (se_ix hu1 (se_var 0) se_int)))) sb_nil)
    (sb_one (ss_ret (se_call (O.o_joined_tables) hk (pas_of (takes_of rfl rfl rfl rfl)) rfl T.m_joined_tables T.F_joined_tables.kp T.b_joined_tables (sa_cons (se_ix hu1 (se_var 0) se_int) (sa_cons (SimL.val (sl_comp rfl nd (si_tup (se_slice (se_var 0) (so_some se_int) so_none)) (blkOk_by (own := [("part", 3)]) (N := n_table_in) (sc := defScope s_table_in) (by decide +kernel)) (fun _ _ _ _ _ => (sg_name 3 nd rfl (by first | exact Or.inl rfl | exact Or.inr rfl))) (fun _ _ _ _ _ => ts_nil) (fun _ _ _ _ _ => (se_call (O.o_table_in) hk pas_none rfl T.m_table_in T.F_table_in.kp T.b_table_in (sa_cons (se_var 3) (sa_cons (se_var 1) (sa_cons (se_var 2) sa_nil))))))) (sa_cons (se_var 2) sa_nil)))))))
set_option maxHeartbeats 4000000 in
theorem sim_table {k : Nat} (T : Txt w K mg) (O : Oks P base T k) (cdv : Value) (A : Around) (outer : List Env) (s : Shared) (H : Hp) (E : XK) (hr : Room (k + 2) (A.deeper (PyProof.Rows.envOfC "table" (defScope s_table) s.heap.objs.size T.a_table cdv))) :
    SimB (cxOf (L2.CX P w) P w K mg base n_table "table" (defScope s_table) T.a_table cdv A outer s H E) (fun cls d _ H2 => E cls d H2) (defBody s_table) (b_table (call k)) := by
  have nd := sc_table.nd
  have hk : Room (k + 2) (A.deeper (PyProof.Rows.envOfC "table" (defScope s_table) s.heap.objs.size T.a_table cdv)) := hr.mono (by omega)
  have hu66 := hr.un
  have hu64 : (A.deeper (PyProof.Rows.envOfC "table" (defScope s_table) s.heap.objs.size T.a_table cdv)).units + 64 < cLine := by omega
  have hu1 : (A.deeper (PyProof.Rows.envOfC "table" (defScope s_table) s.heap.objs.size T.a_table cdv)).units + 1 < cLine := by omega
  have hu67 : (A.deeper (PyProof.Rows.envOfC "table" (defScope s_table) s.heap.objs.size T.a_table cdv)).units + 67 < cLine := by omega
  replace hu66 : (A.deeper (PyProof.Rows.envOfC "table" (defScope s_table) s.heap.objs.size T.a_table cdv)).units + 66 < cLine := by omega
  exact (sb_cons (ss_expr (se_call (O.o_need_names) hk (pas_of (takes_of rfl rfl rfl rfl)) rfl T.m_need_names T.F_need_names.kp T.b_need_names (sa_cons (se_call (O.o_names_of) hk (pas_of (takes_of rfl rfl rfl rfl)) rfl T.m_names_of T.F_names_of.kp T.b_names_of (sa_cons (se_var 0) sa_nil)) (sa_cons (se_var 1) sa_nil))))
    (sb_cons (ss_set 2 nd rfl (by first | exact Or.inl rfl | exact Or.inr rfl) (se_callB cs_len rfl T.z_len (by decide +kernel) (sa_cons (se_var 1) sa_nil)))
    (sb_cons (ss_set 3 nd rfl (by first | exact Or.inl rfl | exact Or.inr rfl) (SimD.loc sd_new))
    (sb_cons (ss_for (passes_of rfl) rfl (si_enumA rfl T.z_enumerate (sa_cons (se_var 1) sa_nil)) (sg_tup rfl (sg_cons (sg_name 4 nd rfl (by first | exact Or.inl rfl | exact Or.inr rfl)) (sg_cons (sg_name 5 nd rfl (by first | exact Or.inl rfl | exact Or.inr rfl)) sg_nil))) (sb_one (ss_store hu1 (se_call (O.o_table_of_name) hk (pas_of (takes_of rfl rfl rfl rfl)) rfl T.m_table_of_name T.F_table_of_name.kp T.b_table_of_name (sa_cons (se_var 4) (sa_cons (se_var 2) sa_nil))) (se_var 3) (se_var 5))))
    (sb_one (ss_ret (se_call (O.o_table_in) hk (pas_of (takes_of rfl rfl rfl rfl)) rfl T.m_table_in T.F_table_in.kp T.b_table_in (sa_cons (se_var 0) (sa_cons (se_var 3) (sa_cons (se_call (O.o_full_of) hk (pas_of (takes_of rfl rfl rfl rfl)) rfl T.m_full_of T.F_full_of.kp T.b_full_of (sa_cons (se_var 2) sa_nil)) sa_nil))))))))))
set_option maxHeartbeats 4000000 in
theorem sim_same {k : Nat} (T : Txt w K mg) (O : Oks P base T k) (cdv : Value) (A : Around) (outer : List Env) (s : Shared) (H : Hp) (E : XK) (hr : Room (k + 2) (A.deeper (PyProof.Rows.envOfC "same" (defScope s_same) s.heap.objs.size T.a_same cdv))) :
    SimB (cxOf (L2.CX P w) P w K mg base n_same "same" (defScope s_same) T.a_same cdv A outer s H E) (fun cls d _ H2 => E cls d H2) (defBody s_same) (b_same (call k)) := by
  have nd := sc_same.nd
  have hk : Room (k + 2) (A.deeper (PyProof.Rows.envOfC "same" (defScope s_same) s.heap.objs.size T.a_same cdv)) := hr.mono (by omega)
  have hu66 := hr.un
  have hu64 : (A.deeper (PyProof.Rows.envOfC "same" (defScope s_same) s.heap.objs.size T.a_same cdv)).units + 64 < cLine := by omega
  have hu1 : (A.deeper (PyProof.Rows.envOfC "same" (defScope s_same) s.heap.objs.size T.a_same cdv)).units + 1 < cLine := by omega
  have hu67 : (A.deeper (PyProof.Rows.envOfC "same" (defScope s_same) s.heap.objs.size T.a_same cdv)).units + 67 < cLine := by omega
  replace hu66 : (A.deeper (PyProof.Rows.envOfC "same" (defScope s_same) s.heap.objs.size T.a_same cdv)).units + 66 < cLine := by omega
  exact (sb_cons (ss_set 2 nd rfl (by first | exact Or.inl rfl | exact Or.inr rfl) (SimL.val (sl_sortOr rfl hu64 rfl T.z_sorted rfl T.z_set (sa_cons (se_call (O.o_names_of) hk (pas_of (takes_of rfl rfl rfl rfl)) rfl T.m_names_of T.F_names_of.kp T.b_names_of (sa_cons (se_var 0) sa_nil)) sa_nil) (sa_cons (se_call (O.o_names_of) hk (pas_of (takes_of rfl rfl rfl rfl)) rfl T.m_names_of T.F_names_of.kp T.b_names_of (sa_cons (se_var 1) sa_nil)) sa_nil))))
    (sb_one (ss_ret (se_cmp (os_eq hu64) noX_eq (se_call (O.o_table) hk (pas_of (takes_of rfl rfl rfl rfl)) rfl T.m_table T.F_table.kp T.b_table (sa_cons (se_var 0) (sa_cons (se_var 2) sa_nil))) (se_call (O.o_table) hk (pas_of (takes_of rfl rfl rfl rfl)) rfl T.m_table T.F_table.kp T.b_table (sa_cons (se_var 1) (sa_cons (se_var 2) sa_nil))) (nomark _)))))
set_option maxHeartbeats 4000000 in
theorem sim_law_tape {k : Nat} (T : Txt w K mg) (O : Oks P base T k) (cdv : Value) (A : Around) (outer : List Env) (s : Shared) (H : Hp) (E : XK) (hr : Room (k + 2) (A.deeper (PyProof.Rows.envOfC "_law_tape" (defScope s_law_tape) s.heap.objs.size T.a__law_tape cdv))) :
    SimB (cxOf (L2.CX P w) P w K mg base n_law_tape "_law_tape" (defScope s_law_tape) T.a__law_tape cdv A outer s H E) (fun cls d _ H2 => E cls d H2) (defBody s_law_tape) (b_law_tape (call k)) := by
  have nd := sc_law_tape.nd
  have hk : Room (k + 2) (A.deeper (PyProof.Rows.envOfC "_law_tape" (defScope s_law_tape) s.heap.objs.size T.a__law_tape cdv)) := hr.mono (by omega)
  have hu66 := hr.un
  have hu64 : (A.deeper (PyProof.Rows.envOfC "_law_tape" (defScope s_law_tape) s.heap.objs.size T.a__law_tape cdv)).units + 64 < cLine := by omega
  have hu1 : (A.deeper (PyProof.Rows.envOfC "_law_tape" (defScope s_law_tape) s.heap.objs.size T.a__law_tape cdv)).units + 1 < cLine := by omega
  have hu67 : (A.deeper (PyProof.Rows.envOfC "_law_tape" (defScope s_law_tape) s.heap.objs.size T.a__law_tape cdv)).units + 67 < cLine := by omega
  replace hu66 : (A.deeper (PyProof.Rows.envOfC "_law_tape" (defScope s_law_tape) s.heap.objs.size T.a__law_tape cdv)).units + 66 < cLine := by omega
  exact (sb_one (ss_ret (SimD.loc (sd_disp (sp_cons se_str (se_slice (se_var 0) so_none (so_some se_int)) (sp_cons se_str se_int (sp_cons se_str se_int sp_nil)))))))
set_option maxHeartbeats 4000000 in
theorem sim_law_draw {k : Nat} (T : Txt w K mg) (O : Oks P base T k) (cdv : Value) (A : Around) (outer : List Env) (s : Shared) (H : Hp) (E : XK) (hr : Room (k + 2) (A.deeper (PyProof.Rows.envOfC "_law_draw" (defScope s_law_draw) s.heap.objs.size T.a__law_draw cdv))) :
    SimB (cxOf (L2.CX P w) P w K mg base n_law_draw "_law_draw" (defScope s_law_draw) T.a__law_draw cdv A outer s H E) (fun cls d _ H2 => E cls d H2) (defBody s_law_draw) (b_law_draw (call k)) := by
  have nd := sc_law_draw.nd
  have hk : Room (k + 2) (A.deeper (PyProof.Rows.envOfC "_law_draw" (defScope s_law_draw) s.heap.objs.size T.a__law_draw cdv)) := hr.mono (by omega)
  have hu66 := hr.un
  have hu64 : (A.deeper (PyProof.Rows.envOfC "_law_draw" (defScope s_law_draw) s.heap.objs.size T.a__law_draw cdv)).units + 64 < cLine := by omega
  have hu1 : (A.deeper (PyProof.Rows.envOfC "_law_draw" (defScope s_law_draw) s.heap.objs.size T.a__law_draw cdv)).units + 1 < cLine := by omega
  have hu67 : (A.deeper (PyProof.Rows.envOfC "_law_draw" (defScope s_law_draw) s.heap.objs.size T.a__law_draw cdv)).units + 67 < cLine := by omega
  replace hu66 : (A.deeper (PyProof.Rows.envOfC "_law_draw" (defScope s_law_draw) s.heap.objs.size T.a__law_draw cdv)).units + 66 < cLine := by omega
  exact (sb_cons (ss_if (st_cmp os_gt noX_gt (se_ix hu1 (se_var 0) se_str) se_int (nomark _)) (sb_cons (ss_set 8 nd rfl (by first | exact Or.inl rfl | exact Or.inr rfl) (se_op os_mod noX_mod (se_ix hu1 (se_var 0) se_str) (se_var 1)))
    (sb_cons (ss_store hu1 (se_op os_fdiv noX_fdiv (se_ix hu1 (se_var 0) se_str) (se_var 1)) (se_var 0) se_str)
    (sb_one (ss_ret (se_var 8))))) sb_nil)
    (sb_cons (ss_set 2 nd rfl (by first | exact Or.inl rfl | exact Or.inr rfl) (se_ix hu1 (se_var 0) se_str))
    (sb_cons (ss_store hu1 (se_op os_add noX_add (se_var 2) se_int) (se_var 0) se_str)
    (sb_cons (ss_set 3 nd rfl (by first | exact Or.inl rfl | exact Or.inr rfl) (se_or (se_ix hu1 (se_var 0) se_str) (se_one (SimL.val (sl_lst (sa_cons se_int sa_nil))))))
    (sb_cons (ss_set 4 nd rfl (by first | exact Or.inl rfl | exact Or.inr rfl) (se_ix hu1 (se_var 3) (se_op os_mod noX_mod (se_var 2) (se_callB cs_len rfl T.z_len (by decide +kernel) (sa_cons (se_var 3) sa_nil)))))
    (sb_cons (ss_if (SimW.t (sw_and (st_cmp os_ge noX_ge (se_var 4) (se_op os_pow noX_pow se_int se_int) (nomark _)) (sw_and1 (st_cmp os_lt noX_lt (se_var 2) (se_callB cs_len rfl T.z_len (by decide +kernel) (sa_cons (se_var 3) sa_nil)) (nomark _))))) (sb_cons (ss_store hu1 (se_op os_fdiv noX_fdiv (se_op os_sub noX_sub (se_var 4) (se_op os_pow noX_pow se_int se_int)) (se_var 1)) (se_var 0) se_str)
    (sb_one (ss_ret (se_op os_mod noX_mod (se_op os_sub noX_sub (se_var 4) (se_op os_pow noX_pow se_int se_int)) (se_var 1))))) sb_nil)
    (sb_cons (ss_set 5 nd rfl (by first | exact Or.inl rfl | exact Or.inr rfl) (SimL.val (sl_lst (sa_cons se_int (sa_cons se_int (sa_cons se_int (sa_cons se_int (sa_cons se_int (sa_cons se_int (sa_cons se_int sa_nil))))))))))
    (sb_cons (ss_set 6 nd rfl (by first | exact Or.inl rfl | exact Or.inr rfl) (se_ix hu1 (se_var 5) (se_op os_mod noX_mod (se_var 2) se_int)))
    (sb_cons (ss_set 7 nd rfl (by first | exact Or.inl rfl | exact Or.inr rfl) (se_op os_mod noX_mod (se_op os_add noX_add (se_op os_add noX_add (se_op os_add noX_add (se_op os_mul noX_mul (se_op os_mod noX_mod (se_var 4) (se_var 6)) se_int) (se_op os_mul noX_mul (se_op os_mul noX_mul se_int (se_var 2)) (se_var 2))) (se_op os_mul noX_mul se_int (se_var 2))) se_int) (se_var 6)))
    (sb_cons (ss_set 7 nd rfl (by first | exact Or.inl rfl | exact Or.inr rfl) (se_op os_mod noX_mod (se_op os_mul noX_mul (se_var 7) (se_op os_add noX_add (se_var 7) se_int)) (se_ix hu1 (se_var 5) (se_op os_mod noX_mod (se_op os_add noX_add (se_var 2) se_int) se_int))))
    (sb_cons (ss_set 8 nd rfl (by first | exact Or.inl rfl | exact Or.inr rfl) (se_op os_fdiv noX_fdiv (se_op os_mod noX_mod (se_op os_mul noX_mul (se_var 7) (se_var 7)) (se_var 6)) se_int))
    (sb_cons (ss_if (st_cmp os_gt noX_gt (se_var 1) (se_op os_pow noX_pow se_int se_int) (nomark _)) (sb_one (ss_set 8 nd rfl (by first | exact Or.inl rfl | exact Or.inr rfl) (se_op os_add noX_add (se_op os_mod noX_mod (se_var 8) (se_op os_pow noX_pow se_int se_int)) (se_op os_mul noX_mul (se_op os_pow noX_pow se_int se_int) (se_call (O.o__law_draw) hk (pas_of (takes_of rfl rfl rfl rfl)) rfl T.m__law_draw T.F__law_draw.kp T.b__law_draw (sa_cons (se_var 0) (sa_cons (se_op os_add noX_add (se_op os_fdiv noX_fdiv (se_var 1) (se_op os_pow noX_pow se_int se_int)) se_int) sa_nil))))))) sb_nil)
    (sb_one (ss_ret (se_op os_mod noX_mod (se_var 8) (se_var 1))))))))))))))))
set_option maxHeartbeats 4000000 in
theorem sim_law_words {k : Nat} (T : Txt w K mg) (O : Oks P base T k) (cdv : Value) (A : Around) (outer : List Env) (s : Shared) (H : Hp) (E : XK) (hr : Room (k + 2) (A.deeper (PyProof.Rows.envOfC "_law_words" (defScope s_law_words) s.heap.objs.size T.a__law_words cdv))) :
    SimB (cxOf (L2.CX P w) P w K mg base n_law_words "_law_words" (defScope s_law_words) T.a__law_words cdv A outer s H E) (fun cls d _ H2 => E cls d H2) (defBody s_law_words) (b_law_words (call k)) := by
  have nd := sc_law_words.nd
  have hk : Room (k + 2) (A.deeper (PyProof.Rows.envOfC "_law_words" (defScope s_law_words) s.heap.objs.size T.a__law_words cdv)) := hr.mono (by omega)
  have hu66 := hr.un
  have hu64 : (A.deeper (PyProof.Rows.envOfC "_law_words" (defScope s_law_words) s.heap.objs.size T.a__law_words cdv)).units + 64 < cLine := by omega
  have hu1 : (A.deeper (PyProof.Rows.envOfC "_law_words" (defScope s_law_words) s.heap.objs.size T.a__law_words cdv)).units + 1 < cLine := by omega
  have hu67 : (A.deeper (PyProof.Rows.envOfC "_law_words" (defScope s_law_words) s.heap.objs.size T.a__law_words cdv)).units + 67 < cLine := by omega
  replace hu66 : (A.deeper (PyProof.Rows.envOfC "_law_words" (defScope s_law_words) s.heap.objs.size T.a__law_words cdv)).units + 66 < cLine := by omega
  exact (sb_cons (ss_set 2 nd rfl (by first | exact Or.inl rfl | exact Or.inr rfl) se_str)
    (sb_cons (ss_set 3 nd rfl (by first | exact Or.inl rfl | exact Or.inr rfl) (se_bm PySem.F.plainAttrs_str PySem.F.slot_str_split PySem.F.type_str_split ms_split se_str (sa_cons se_str sa_nil)))
    (sb_cons (ss_set 4 nd rfl (by first | exact Or.inl rfl | exact Or.inr rfl) (se_bm PySem.F.plainAttrs_str PySem.F.slot_str_join PySem.F.type_str_join ms_join se_str (sa_cons (SimL.val (sl_comp rfl nd (si_range1 rfl T.z_range (sa_cons (se_op os_add noX_add se_int (se_call (O.o__law_draw) hk (pas_of (takes_of rfl rfl rfl rfl)) rfl T.m__law_draw T.F__law_draw.kp T.b__law_draw (sa_cons (se_var 0) (sa_cons se_int sa_nil)))) sa_nil)) (blkOk_by (own := [("_law_k", 6)]) (N := n_law_words) (sc := defScope s_law_words) (by decide +kernel)) (fun _ _ _ _ _ => (sg_name 6 nd rfl (by first | exact Or.inl rfl | exact Or.inr rfl))) (fun _ _ _ _ _ => ts_nil) (fun _ _ _ _ _ => (se_ix hu1 (se_var 2) (se_call (O.o__law_draw) hk pas_none rfl T.m__law_draw T.F__law_draw.kp T.b__law_draw (sa_cons (se_var 0) (sa_cons se_int sa_nil))))))) sa_nil)))
    (sb_cons (ss_set 5 nd rfl (by first | exact Or.inl rfl | exact Or.inr rfl) (SimL.loc (sl_lst sa_nil)))
    (sb_cons (ss_for (passes_of rfl) rfl (si_range1 rfl T.z_range (sa_cons (se_var 1) sa_nil)) (sg_name 6 nd rfl (by first | exact Or.inl rfl | exact Or.inr rfl)) (sb_cons (ss_set 7 nd rfl (by first | exact Or.inl rfl | exact Or.inr rfl) (se_ix hu1 (se_var 2) (se_call (O.o__law_draw) hk (pas_of (takes_of rfl rfl rfl rfl)) rfl T.m__law_draw T.F__law_draw.kp T.b__law_draw (sa_cons (se_var 0) (sa_cons se_int sa_nil)))))
    (sb_cons (ss_set 8 nd rfl (by first | exact Or.inl rfl | exact Or.inr rfl) (SimL.val (sl_lst (sa_cons (se_var 4) (sa_cons (se_op os_add noX_add (se_var 4) (se_var 7)) (sa_cons (se_op os_add noX_add (se_var 7) (se_var 4)) (sa_cons (se_var 7) (sa_cons (se_op os_add noX_add (se_op os_add noX_add (se_var 4) (se_var 7)) (se_var 7)) (sa_cons (se_ix hu1 (se_var 3) (se_call (O.o__law_draw) hk (pas_of (takes_of rfl rfl rfl rfl)) rfl T.m__law_draw T.F__law_draw.kp T.b__law_draw (sa_cons (se_var 0) (sa_cons se_int sa_nil)))) sa_nil)))))))))
    (sb_cons (ss_set 9 nd rfl (by first | exact Or.inl rfl | exact Or.inr rfl) (se_slice (se_ix hu1 (se_var 8) (se_call (O.o__law_draw) hk (pas_of (takes_of rfl rfl rfl rfl)) rfl T.m__law_draw T.F__law_draw.kp T.b__law_draw (sa_cons (se_var 0) (sa_cons se_int sa_nil)))) so_none (so_some se_int)))
    (sb_cons (ss_for (passes_of rfl) rfl (si_str (se_var 2)) (sg_name 10 nd rfl (by first | exact Or.inl rfl | exact Or.inr rfl)) (sb_one (ss_if (SimW.t (sw_or (st_cmp (os_in hu66) noX_in (se_var 9) (se_var 5) (by rfl)) (sw_or1 (st_cmp (os_in hu66) noX_in (se_var 9) (se_tup (sa_cons se_str (sa_cons se_str (sa_cons se_str (sa_cons se_str (sa_cons se_str (sa_cons se_str (sa_cons se_str sa_nil)))))))) (by rfl))))) (sb_one (ss_set 9 nd rfl (by first | exact Or.inl rfl | exact Or.inr rfl) (se_op os_add noX_add (se_slice (se_var 9) so_none (so_some se_int)) (se_var 10)))) sb_nil)))
    (sb_one (ss_expr (se_bm PySem.F.plainAttrs_list PySem.F.slot_list_append PySem.F.type_list_append ms_append (se_var 5) (sa_cons (se_var 9) sa_nil)))))))))
    (sb_one (ss_ret (se_ice (se_var 5)))))))))
set_option maxHeartbeats 4000000 in
theorem sim_law_saying {k : Nat} (T : Txt w K mg) (O : Oks P base T k) (cdv : Value) (A : Around) (outer : List Env) (s : Shared) (H : Hp) (E : XK) (hr : Room (k + 2) (A.deeper (PyProof.Rows.envOfC "_law_saying" (defScope s_law_saying) s.heap.objs.size T.a__law_saying cdv))) :
    SimB (cxOf (L2.CX P w) P w K mg base n_law_saying "_law_saying" (defScope s_law_saying) T.a__law_saying cdv A outer s H E) (fun cls d _ H2 => E cls d H2) (defBody s_law_saying) (b_law_saying (call k)) := by
  have nd := sc_law_saying.nd
  have hk : Room (k + 2) (A.deeper (PyProof.Rows.envOfC "_law_saying" (defScope s_law_saying) s.heap.objs.size T.a__law_saying cdv)) := hr.mono (by omega)
  have hu66 := hr.un
  have hu64 : (A.deeper (PyProof.Rows.envOfC "_law_saying" (defScope s_law_saying) s.heap.objs.size T.a__law_saying cdv)).units + 64 < cLine := by omega
  have hu1 : (A.deeper (PyProof.Rows.envOfC "_law_saying" (defScope s_law_saying) s.heap.objs.size T.a__law_saying cdv)).units + 1 < cLine := by omega
  have hu67 : (A.deeper (PyProof.Rows.envOfC "_law_saying" (defScope s_law_saying) s.heap.objs.size T.a__law_saying cdv)).units + 67 < cLine := by omega
  replace hu66 : (A.deeper (PyProof.Rows.envOfC "_law_saying" (defScope s_law_saying) s.heap.objs.size T.a__law_saying cdv)).units + 66 < cLine := by omega
  exact (sb_cons (ss_set 4 nd rfl (by first | exact Or.inl rfl | exact Or.inr rfl) (se_call (O.o__law_draw) hk (pas_of (takes_of rfl rfl rfl rfl)) rfl T.m__law_draw T.F__law_draw.kp T.b__law_draw (sa_cons (se_var 0) (sa_cons se_int sa_nil))))
    (sb_cons (ss_if (SimW.t (sw_or (st_cmp os_lt noX_lt (se_ix hu1 (se_var 2) se_int) se_int (nomark _)) (sw_or (st_cmp os_lt noX_lt (se_var 3) se_int (nomark _)) (sw_or1 (st_cmp os_lt noX_lt (se_var 4) se_int (nomark _)))))) (sb_one (ss_ret (se_ix hu1 (SimL.val (sl_lst (sa_cons (se_tup (sa_cons se_str sa_nil)) (sa_cons (se_tup (sa_cons se_str sa_nil)) (sa_cons (se_tup (sa_cons se_str (sa_cons (se_ix hu1 (se_var 1) (se_call (O.o__law_draw) hk (pas_of (takes_of rfl rfl rfl rfl)) rfl T.m__law_draw T.F__law_draw.kp T.b__law_draw (sa_cons (se_var 0) (sa_cons (se_callB cs_len rfl T.z_len (by decide +kernel) (sa_cons (se_var 1) sa_nil)) sa_nil)))) sa_nil))) sa_nil))))) (se_callB (cs_min rfl) rfl T.z_min (by decide +kernel) (sa_cons se_int (sa_cons (se_call (O.o__law_draw) hk (pas_of (takes_of rfl rfl rfl rfl)) rfl T.m__law_draw T.F__law_draw.kp T.b__law_draw (sa_cons (se_var 0) (sa_cons se_int sa_nil))) sa_nil)))))) sb_nil)
    (sb_cons (ss_store hu1 (se_op os_sub noX_sub (se_op os_sub noX_sub (se_ix hu1 (se_var 2) se_int) se_int) (se_callTy cs_int rfl T.z_int (by decide +kernel) (sa_cons (se_cmp os_gt noX_gt (se_var 4) se_int (nomark _)) sa_nil))) (se_var 2) se_int)
    (sb_cons (ss_if (st_cmp (os_eq hu64) noX_eq (se_var 4) se_int (nomark _)) (sb_one (ss_ret (se_tup (sa_cons se_str (sa_cons (se_call (O.o__law_saying) hk (pas_of (takes_of rfl rfl rfl rfl)) rfl T.m__law_saying T.F__law_saying.kp T.b__law_saying (sa_cons (se_var 0) (sa_cons (se_var 1) (sa_cons (se_var 2) (sa_cons (se_op os_sub noX_sub (se_var 3) se_int) sa_nil))))) sa_nil))))) sb_nil)
    (sb_cons (ss_set 5 nd rfl (by first | exact Or.inl rfl | exact Or.inr rfl) (se_ix hu1 (SimL.val (sl_lst (sa_cons se_str (sa_cons se_str (sa_cons se_str (sa_cons se_str (sa_cons se_str (sa_cons se_str sa_nil)))))))) (se_op os_sub noX_sub (se_var 4) se_int)))
    (sb_cons (ss_set 6 nd rfl (by first | exact Or.inl rfl | exact Or.inr rfl) (se_call (O.o__law_saying) hk (pas_of (takes_of rfl rfl rfl rfl)) rfl T.m__law_saying T.F__law_saying.kp T.b__law_saying (sa_cons (se_var 0) (sa_cons (se_var 1) (sa_cons (se_var 2) (sa_cons (se_op os_sub noX_sub (se_var 3) se_int) sa_nil))))))
    (sb_one (ss_ret (se_tup (sa_cons (se_var 5) (sa_cons (se_var 6) (sa_cons (se_call (O.o__law_saying) hk (pas_of (takes_of rfl rfl rfl rfl)) rfl T.m__law_saying T.F__law_saying.kp T.b__law_saying (sa_cons (se_var 0) (sa_cons (se_var 1) (sa_cons (se_var 2) (sa_cons (se_op os_sub noX_sub (se_var 3) se_int) sa_nil))))) sa_nil))))))))))))
set_option maxHeartbeats 4000000 in
theorem sim_law_value {k : Nat} (T : Txt w K mg) (O : Oks P base T k) (cdv : Value) (A : Around) (outer : List Env) (s : Shared) (H : Hp) (E : XK) (hr : Room (k + 2) (A.deeper (PyProof.Rows.envOfC "_law_value" (defScope s_law_value) s.heap.objs.size T.a__law_value cdv))) :
    SimB (cxOf (L2.CX P w) P w K mg base n_law_value "_law_value" (defScope s_law_value) T.a__law_value cdv A outer s H E) (fun cls d _ H2 => E cls d H2) (defBody s_law_value) (b_law_value (call k)) := by
  have nd := sc_law_value.nd
  have hk : Room (k + 2) (A.deeper (PyProof.Rows.envOfC "_law_value" (defScope s_law_value) s.heap.objs.size T.a__law_value cdv)) := hr.mono (by omega)
  have hu66 := hr.un
  have hu64 : (A.deeper (PyProof.Rows.envOfC "_law_value" (defScope s_law_value) s.heap.objs.size T.a__law_value cdv)).units + 64 < cLine := by omega
  have hu1 : (A.deeper (PyProof.Rows.envOfC "_law_value" (defScope s_law_value) s.heap.objs.size T.a__law_value cdv)).units + 1 < cLine := by omega
  have hu67 : (A.deeper (PyProof.Rows.envOfC "_law_value" (defScope s_law_value) s.heap.objs.size T.a__law_value cdv)).units + 67 < cLine := by omega
  replace hu66 : (A.deeper (PyProof.Rows.envOfC "_law_value" (defScope s_law_value) s.heap.objs.size T.a__law_value cdv)).units + 66 < cLine := by omega
  exact (sb_cons (ss_set 2 nd rfl (by first | exact Or.inl rfl | exact Or.inr rfl) (se_ix hu1 (se_var 0) se_int))
    (sb_cons (ss_if (st_cmp (os_eq hu64) noX_eq (se_var 2) se_str (nomark _)) (sb_one (ss_ret (se_ix hu1 (se_var 1) (se_ix hu1 (se_var 0) se_int)))) sb_nil)
    (sb_cons (And.left (ss_setComp 3 rfl nd rfl rfl (sw_true rfl rfl rfl (by decide +kernel)) (si_tup (se_slice (se_var 0) (so_some se_int) so_none)) (blkOk_by (own := [("_law_part", 4)]) (N := n_law_value) (sc := defScope s_law_value) (by decide +kernel)) (fun _ _ _ _ _ => (sg_name 4 nd rfl (by first | exact Or.inl rfl | exact Or.inr rfl))) (fun _ _ _ _ _ => ts_nil) (fun _ _ _ _ _ => (se_call (O.o__law_value) hk pas_none rfl T.m__law_value T.F__law_value.kp T.b__law_value (sa_cons (se_var 4) (sa_cons (se_var 1) sa_nil))))))
    (sb_cons (ss_if (st_cmp (os_eq hu64) noX_eq (se_var 2) se_str (nomark _)) (sb_one (ss_ret (se_not (se_ix hu1 (se_var 3) se_int)))) sb_nil)
    (sb_cons (ss_if (st_cmp (os_eq hu64) noX_eq (se_var 2) se_str (nomark _)) (sb_one (ss_ret (se_and (se_ix hu1 (se_var 3) se_int) (se_one (se_ix hu1 (se_var 3) se_int))))) sb_nil)
    (sb_cons (ss_if (st_cmp (os_eq hu64) noX_eq (se_var 2) se_str (nomark _)) (sb_one (ss_ret (se_or (se_ix hu1 (se_var 3) se_int) (se_one (se_ix hu1 (se_var 3) se_int))))) sb_nil)
    (sb_cons (ss_if (st_cmp (os_eq hu64) noX_eq (se_var 2) se_str (nomark _)) (sb_one (ss_ret (se_or (se_ix hu1 (se_var 3) se_int) (se_one (se_not (se_ix hu1 (se_var 3) se_int)))))) sb_nil)
    (sb_cons (ss_if (st_cmp (os_eq hu64) noX_eq (se_var 2) se_str (nomark _)) (sb_one (ss_ret (se_cmp (os_eq hu64) noX_eq (se_ix hu1 (se_var 3) se_int) (se_ix hu1 (se_var 3) se_int) (nomark _)))) sb_nil)
    (sb_one (ss_ret (se_cmp (os_eq hu64) noX_eq (se_var 2) se_str (nomark _))))))))))))
set_option maxHeartbeats 4000000 in
theorem sim_law_row {k : Nat} (T : Txt w K mg) (O : Oks P base T k) (cdv : Value) (A : Around) (outer : List Env) (s : Shared) (H : Hp) (E : XK) (hr : Room (k + 2) (A.deeper (PyProof.Rows.envOfC "_law_row" (defScope s_law_row) s.heap.objs.size T.a__law_row cdv))) :
    SimB (cxOf (L2.CX P w) P w K mg base n_law_row "_law_row" (defScope s_law_row) T.a__law_row cdv A outer s H E) (fun cls d _ H2 => E cls d H2) (defBody s_law_row) (b_law_row (call k)) := by
  have nd := sc_law_row.nd
  have hk : Room (k + 2) (A.deeper (PyProof.Rows.envOfC "_law_row" (defScope s_law_row) s.heap.objs.size T.a__law_row cdv)) := hr.mono (by omega)
  have hu66 := hr.un
  have hu64 : (A.deeper (PyProof.Rows.envOfC "_law_row" (defScope s_law_row) s.heap.objs.size T.a__law_row cdv)).units + 64 < cLine := by omega
  have hu1 : (A.deeper (PyProof.Rows.envOfC "_law_row" (defScope s_law_row) s.heap.objs.size T.a__law_row cdv)).units + 1 < cLine := by omega
  have hu67 : (A.deeper (PyProof.Rows.envOfC "_law_row" (defScope s_law_row) s.heap.objs.size T.a__law_row cdv)).units + 67 < cLine := by omega
  replace hu66 : (A.deeper (PyProof.Rows.envOfC "_law_row" (defScope s_law_row) s.heap.objs.size T.a__law_row cdv)).units + 66 < cLine := by omega
  exact (sb_one (ss_ret (SimD.val (sd_callTy dictC_noX (cd_dict rfl) rfl T.z_dict (by decide +kernel) (sa_cons (SimL.val (sl_comp rfl nd (si_range1 rfl T.z_range (sa_cons (se_callB cs_len rfl T.z_len (by decide +kernel) (sa_cons (se_var 0) sa_nil)) sa_nil)) (blkOk_by (own := [("_law_k", 2)]) (N := n_law_row) (sc := defScope s_law_row) (by decide +kernel)) (fun _ _ _ _ _ => (sg_name 2 nd rfl (by first | exact Or.inl rfl | exact Or.inr rfl))) (fun _ _ _ _ _ => ts_nil) (fun _ _ _ _ _ => (se_tup (sa_cons (se_ix hu1 (se_var 0) (se_var 2)) (sa_cons (se_cmp (os_eq hu64) noX_eq (se_op os_and noX_and (se_op os_shr noX_shr (se_var 1) (se_var 2)) se_int) se_int (nomark _)) sa_nil)))))) sa_nil)))))
set_option maxHeartbeats 4000000 in
theorem sim_law_told {k : Nat} (T : Txt w K mg) (O : Oks P base T k) (cdv : Value) (A : Around) (outer : List Env) (s : Shared) (H : Hp) (E : XK) (hr : Room (k + 2) (A.deeper (PyProof.Rows.envOfC "_law_told" (defScope s_law_told) s.heap.objs.size T.a__law_told cdv))) :
    SimB (cxOf (L2.CX P w) P w K mg base n_law_told "_law_told" (defScope s_law_told) T.a__law_told cdv A outer s H E) (fun cls d _ H2 => E cls d H2) (defBody s_law_told) (b_law_told (call k)) := by
  have nd := sc_law_told.nd
  have hk : Room (k + 2) (A.deeper (PyProof.Rows.envOfC "_law_told" (defScope s_law_told) s.heap.objs.size T.a__law_told cdv)) := hr.mono (by omega)
  have hu66 := hr.un
  have hu64 : (A.deeper (PyProof.Rows.envOfC "_law_told" (defScope s_law_told) s.heap.objs.size T.a__law_told cdv)).units + 64 < cLine := by omega
  have hu1 : (A.deeper (PyProof.Rows.envOfC "_law_told" (defScope s_law_told) s.heap.objs.size T.a__law_told cdv)).units + 1 < cLine := by omega
  have hu67 : (A.deeper (PyProof.Rows.envOfC "_law_told" (defScope s_law_told) s.heap.objs.size T.a__law_told cdv)).units + 67 < cLine := by omega
  replace hu66 : (A.deeper (PyProof.Rows.envOfC "_law_told" (defScope s_law_told) s.heap.objs.size T.a__law_told cdv)).units + 66 < cLine := by omega
  exact (sb_cons (ss_set 2 nd rfl (by first | exact Or.inl rfl | exact Or.inr rfl) se_non)
    (sb_cons (ss_set 3 nd rfl (by first | exact Or.inl rfl | exact Or.inr rfl) se_non)
    (sb_cons (ss_try rfl rfl rfl nd rfl rfl ⟨rfl, by decide, .inl T.x_NoName.mc⟩ (takes_of rfl rfl rfl rfl) (exk_NoName T) (fun W pn xe tk po => (sb_one (ss_set 2 nd rfl (by first | exact Or.inl rfl | exact Or.inr rfl) (se_call (O.o_table) hk (pas_of tk) rfl T.m_table T.F_table.kp T.b_table (sa_cons (se_var 0) (sa_cons (se_var 1) sa_nil)))))) (fun a pn => (sb_one (ss_set 3 nd rfl (by first | exact Or.inl rfl | exact Or.inr rfl) (se_var 4)))))
    (sb_one (ss_ret (se_if (st_cmp os_is noX_is (se_var 3) se_non (nomark _)) (se_var 2) (se_tup (sa_cons (se_fld (se_var 3) (fld_name T)) sa_nil))))))))
set_option maxHeartbeats 4000000 in
theorem sim_law_alike {k : Nat} (T : Txt w K mg) (O : Oks P base T k) (cdv : Value) (A : Around) (outer : List Env) (s : Shared) (H : Hp) (E : XK) (hr : Room (k + 2) (A.deeper (PyProof.Rows.envOfC "_law_alike" (defScope s_law_alike) s.heap.objs.size T.a__law_alike cdv))) :
    SimB (cxOf (L2.CX P w) P w K mg base n_law_alike "_law_alike" (defScope s_law_alike) T.a__law_alike cdv A outer s H E) (fun cls d _ H2 => E cls d H2) (defBody s_law_alike) (b_law_alike (call k)) := by
  have nd := sc_law_alike.nd
  have hk : Room (k + 2) (A.deeper (PyProof.Rows.envOfC "_law_alike" (defScope s_law_alike) s.heap.objs.size T.a__law_alike cdv)) := hr.mono (by omega)
  have hu66 := hr.un
  have hu64 : (A.deeper (PyProof.Rows.envOfC "_law_alike" (defScope s_law_alike) s.heap.objs.size T.a__law_alike cdv)).units + 64 < cLine := by omega
  have hu1 : (A.deeper (PyProof.Rows.envOfC "_law_alike" (defScope s_law_alike) s.heap.objs.size T.a__law_alike cdv)).units + 1 < cLine := by omega
  have hu67 : (A.deeper (PyProof.Rows.envOfC "_law_alike" (defScope s_law_alike) s.heap.objs.size T.a__law_alike cdv)).units + 67 < cLine := by omega
  replace hu66 : (A.deeper (PyProof.Rows.envOfC "_law_alike" (defScope s_law_alike) s.heap.objs.size T.a__law_alike cdv)).units + 66 < cLine := by omega
  exact (sb_cons (And.left (ss_setComp 3 rfl nd rfl rfl (sw_true rfl rfl rfl (by decide +kernel)) (si_range1 rfl T.z_range (sa_cons (se_op os_shl noX_shl se_int (se_callB cs_len rfl T.z_len (by decide +kernel) (sa_cons (se_var 2) sa_nil))) sa_nil)) (blkOk_by (own := [("_law_number", 4)]) (N := n_law_alike) (sc := defScope s_law_alike) (by decide +kernel)) (fun _ _ _ _ _ => (sg_name 4 nd rfl (by first | exact Or.inl rfl | exact Or.inr rfl))) (fun _ _ _ _ _ => ts_nil) (fun _ _ _ _ _ => (se_call (O.o__law_row) hk pas_none rfl T.m__law_row T.F__law_row.kp T.b__law_row (sa_cons (se_var 2) (sa_cons (se_var 4) sa_nil))))))
    (sb_one (ss_ret (se_cmp (os_eq hu64) noX_eq (SimL.val (sl_comp rfl nd (si_list (se_var 3)) (blkOk_by (own := [("_law_row_here", 5)]) (N := n_law_alike) (sc := defScope s_law_alike) (by decide +kernel)) (fun _ _ _ _ _ => (sg_name 5 nd rfl (by first | exact Or.inl rfl | exact Or.inr rfl))) (fun _ _ _ _ _ => ts_nil) (fun _ _ _ _ _ => (se_call (O.o__law_value) hk pas_none rfl T.m__law_value T.F__law_value.kp T.b__law_value (sa_cons (se_var 0) (sa_cons (se_var 5) sa_nil)))))) (SimL.val (sl_comp rfl nd (si_list (se_var 3)) (blkOk_by (own := [("_law_row_here", 5)]) (N := n_law_alike) (sc := defScope s_law_alike) (by decide +kernel)) (fun _ _ _ _ _ => (sg_name 5 nd rfl (by first | exact Or.inl rfl | exact Or.inr rfl))) (fun _ _ _ _ _ => ts_nil) (fun _ _ _ _ _ => (se_call (O.o__law_value) hk pas_none rfl T.m__law_value T.F__law_value.kp T.b__law_value (sa_cons (se_var 1) (sa_cons (se_var 5) sa_nil)))))) (nomark _)))))
set_option maxHeartbeats 4000000 in
theorem sim_law_but_one {k : Nat} (T : Txt w K mg) (O : Oks P base T k) (cdv : Value) (A : Around) (outer : List Env) (s : Shared) (H : Hp) (E : XK) (hr : Room (k + 2) (A.deeper (PyProof.Rows.envOfC "_law_but_one" (defScope s_law_but_one) s.heap.objs.size T.a__law_but_one cdv))) :
    SimB (cxOf (L2.CX P w) P w K mg base n_law_but_one "_law_but_one" (defScope s_law_but_one) T.a__law_but_one cdv A outer s H E) (fun cls d _ H2 => E cls d H2) (defBody s_law_but_one) (b_law_but_one (call k)) := by
  have nd := sc_law_but_one.nd
  have hk : Room (k + 2) (A.deeper (PyProof.Rows.envOfC "_law_but_one" (defScope s_law_but_one) s.heap.objs.size T.a__law_but_one cdv)) := hr.mono (by omega)
  have hu66 := hr.un
  have hu64 : (A.deeper (PyProof.Rows.envOfC "_law_but_one" (defScope s_law_but_one) s.heap.objs.size T.a__law_but_one cdv)).units + 64 < cLine := by omega
  have hu1 : (A.deeper (PyProof.Rows.envOfC "_law_but_one" (defScope s_law_but_one) s.heap.objs.size T.a__law_but_one cdv)).units + 1 < cLine := by omega
  have hu67 : (A.deeper (PyProof.Rows.envOfC "_law_but_one" (defScope s_law_but_one) s.heap.objs.size T.a__law_but_one cdv)).units + 67 < cLine := by omega
  replace hu66 : (A.deeper (PyProof.Rows.envOfC "_law_but_one" (defScope s_law_but_one) s.heap.objs.size T.a__law_but_one cdv)).units + 66 < cLine := by omega
  exact (sb_cons (ss_set 3 nd rfl (by first | exact Or.inl rfl | exact Or.inr rfl) (se_call (O.o__law_draw) hk (pas_of (takes_of rfl rfl rfl rfl)) rfl T.m__law_draw T.F__law_draw.kp T.b__law_draw (sa_cons (se_var 0) (sa_cons (se_op os_shl noX_shl se_int (se_callB cs_len rfl T.z_len (by decide +kernel) (sa_cons (se_var 2) sa_nil))) sa_nil))))
    (sb_cons (ss_set 4 nd rfl (by first | exact Or.inl rfl | exact Or.inr rfl) (se_call (O.o__law_row) hk (pas_of (takes_of rfl rfl rfl rfl)) rfl T.m__law_row T.F__law_row.kp T.b__law_row (sa_cons (se_var 2) (sa_cons (se_var 3) sa_nil))))
    (sb_cons (ss_set 5 nd rfl (by first | exact Or.inl rfl | exact Or.inr rfl) (se_tup (sa_cons se_str sa_nil)))
    (sb_cons (ss_for (passes_of rfl) rfl (si_list (se_var 2)) (sg_name 6 nd rfl (by first | exact Or.inl rfl | exact Or.inr rfl)) (sb_one (ss_set 5 nd rfl (by first | exact Or.inl rfl | exact Or.inr rfl) (se_tup (sa_cons se_str (sa_cons (se_var 5) (sa_cons (se_if (st_val (se_ix hu1 (se_var 4) (se_var 6))) (se_tup (sa_cons se_str (sa_cons (se_var 6) sa_nil))) (se_tup (sa_cons se_str (sa_cons (se_tup (sa_cons se_str (sa_cons (se_var 6) sa_nil))) sa_nil)))) sa_nil)))))))
    (sb_one (ss_ret (se_tup (sa_cons (se_tup (sa_cons se_str (sa_cons (se_tup (sa_cons se_str (sa_cons (se_var 5) sa_nil))) (sa_cons (se_var 1) sa_nil)))) (sa_cons (se_not (se_call (O.o__law_value) hk (pas_of (takes_of rfl rfl rfl rfl)) rfl T.m__law_value T.F__law_value.kp T.b__law_value (sa_cons (se_var 1) (sa_cons (se_var 4) sa_nil)))) sa_nil)))))))))
set_option maxHeartbeats 4000000 in
theorem sim_law_bare_right {k : Nat} (T : Txt w K mg) (O : Oks P base T k) (cdv : Value) (A : Around) (outer : List Env) (s : Shared) (H : Hp) (E : XK) (hr : Room (k + 2) (A.deeper (PyProof.Rows.envOfC "_law_bare_right" (defScope s_law_bare_right) s.heap.objs.size T.a__law_bare_right cdv))) :
    SimB (cxOf (L2.CX P w) P w K mg base n_law_bare_right "_law_bare_right" (defScope s_law_bare_right) T.a__law_bare_right cdv A outer s H E) (fun cls d _ H2 => E cls d H2) (defBody s_law_bare_right) (b_law_bare_right (call k)) := by
  have nd := sc_law_bare_right.nd
  have hk : Room (k + 2) (A.deeper (PyProof.Rows.envOfC "_law_bare_right" (defScope s_law_bare_right) s.heap.objs.size T.a__law_bare_right cdv)) := hr.mono (by omega)
  have hu66 := hr.un
  have hu64 : (A.deeper (PyProof.Rows.envOfC "_law_bare_right" (defScope s_law_bare_right) s.heap.objs.size T.a__law_bare_right cdv)).units + 64 < cLine := by omega
  have hu1 : (A.deeper (PyProof.Rows.envOfC "_law_bare_right" (defScope s_law_bare_right) s.heap.objs.size T.a__law_bare_right cdv)).units + 1 < cLine := by omega
  have hu67 : (A.deeper (PyProof.Rows.envOfC "_law_bare_right" (defScope s_law_bare_right) s.heap.objs.size T.a__law_bare_right cdv)).units + 67 < cLine := by omega
  replace hu66 : (A.deeper (PyProof.Rows.envOfC "_law_bare_right" (defScope s_law_bare_right) s.heap.objs.size T.a__law_bare_right cdv)).units + 66 < cLine := by omega
  exact (sb_cons (ss_set 1 nd rfl (by first | exact Or.inl rfl | exact Or.inr rfl) (SimL.val (sl_lst (sa_cons (se_tup (sa_cons se_str (sa_cons (se_tup (sa_cons se_str sa_nil)) sa_nil))) (sa_cons (se_tup (sa_cons se_str (sa_cons (se_tup (sa_cons se_str sa_nil)) (sa_cons (se_tup (sa_cons se_str sa_nil)) sa_nil)))) (sa_cons (se_tup (sa_cons se_str sa_nil)) (sa_cons (se_tup (sa_cons se_str (sa_cons (se_tup (sa_cons se_str sa_nil)) (sa_cons (se_tup (sa_cons se_str sa_nil)) sa_nil)))) (sa_cons (se_tup (sa_cons se_str sa_nil)) sa_nil))))))))
    (sb_cons (ss_set 2 nd rfl (by first | exact Or.inl rfl | exact Or.inr rfl) (se_ix hu1 (se_var 1) (se_call (O.o__law_draw) hk (pas_of (takes_of rfl rfl rfl rfl)) rfl T.m__law_draw T.F__law_draw.kp T.b__law_draw (sa_cons (se_var 0) (sa_cons se_int sa_nil)))))
    (sb_one (ss_ret (se_cmp (os_eq hu64) noX_eq (se_call (O.o_table) hk (pas_of (takes_of rfl rfl rfl rfl)) rfl T.m_table T.F_table.kp T.b_table (sa_cons (se_var 2) (sa_cons (SimL.val (sl_lst sa_nil)) sa_nil))) (se_callTy cs_int rfl T.z_int (by decide +kernel) (sa_cons (se_call (O.o__law_value) hk (pas_of (takes_of rfl rfl rfl rfl)) rfl T.m__law_value T.F__law_value.kp T.b__law_value (sa_cons (se_var 2) (sa_cons (SimD.val sd_new) sa_nil))) sa_nil)) (nomark _))))))
set_option maxHeartbeats 4000000 in
theorem sim_law_sames_right {k : Nat} (T : Txt w K mg) (O : Oks P base T k) (cdv : Value) (A : Around) (outer : List Env) (s : Shared) (H : Hp) (E : XK) (hr : Room (k + 2) (A.deeper (PyProof.Rows.envOfC "_law_sames_right" (defScope s_law_sames_right) s.heap.objs.size T.a__law_sames_right cdv))) :
    SimB (cxOf (L2.CX P w) P w K mg base n_law_sames_right "_law_sames_right" (defScope s_law_sames_right) T.a__law_sames_right cdv A outer s H E) (fun cls d _ H2 => E cls d H2) (defBody s_law_sames_right) (b_law_sames_right (call k)) := by
  have nd := sc_law_sames_right.nd
  have hk : Room (k + 2) (A.deeper (PyProof.Rows.envOfC "_law_sames_right" (defScope s_law_sames_right) s.heap.objs.size T.a__law_sames_right cdv)) := hr.mono (by omega)
  have hu66 := hr.un
  have hu64 : (A.deeper (PyProof.Rows.envOfC "_law_sames_right" (defScope s_law_sames_right) s.heap.objs.size T.a__law_sames_right cdv)).units + 64 < cLine := by omega
  have hu1 : (A.deeper (PyProof.Rows.envOfC "_law_sames_right" (defScope s_law_sames_right) s.heap.objs.size T.a__law_sames_right cdv)).units + 1 < cLine := by omega
  have hu67 : (A.deeper (PyProof.Rows.envOfC "_law_sames_right" (defScope s_law_sames_right) s.heap.objs.size T.a__law_sames_right cdv)).units + 67 < cLine := by omega
  replace hu66 : (A.deeper (PyProof.Rows.envOfC "_law_sames_right" (defScope s_law_sames_right) s.heap.objs.size T.a__law_sames_right cdv)).units + 66 < cLine := by omega
  exact (sb_cons (ss_asg (se_call (O.o__law_but_one) hk (pas_of (takes_of rfl rfl rfl rfl)) rfl T.m__law_but_one T.F__law_but_one.kp T.b__law_but_one (sa_cons (se_var 0) (sa_cons (se_var 1) (sa_cons (se_slice (se_var 2) so_none (so_some (se_op os_add noX_add se_int (se_call (O.o__law_draw) hk (pas_of (takes_of rfl rfl rfl rfl)) rfl T.m__law_draw T.F__law_draw.kp T.b__law_draw (sa_cons (se_var 0) (sa_cons se_int sa_nil)))))) sa_nil)))) (sg_tup rfl (sg_cons (sg_name 3 nd rfl (by first | exact Or.inl rfl | exact Or.inr rfl)) (sg_cons (sg_name 4 nd rfl (by first | exact Or.inl rfl | exact Or.inr rfl)) sg_nil))))
    (sb_cons (ss_if (SimW.t (sw_or (st_cmp (os_ne hu64) noX_ne (se_call (O.o_same) hk (pas_of (takes_of rfl rfl rfl rfl)) rfl T.m_same T.F_same.kp T.b_same (sa_cons (se_var 1) (sa_cons (se_var 3) sa_nil))) (se_var 4) (nomark _)) (sw_or1 (st_cmp (os_ne hu64) noX_ne (se_call (O.o_same) hk (pas_of (takes_of rfl rfl rfl rfl)) rfl T.m_same T.F_same.kp T.b_same (sa_cons (se_var 3) (sa_cons (se_var 1) sa_nil))) (se_var 4) (nomark _))))) (sb_one (ss_ret se_bl)) sb_nil)
    (sb_cons (ss_set 3 nd rfl (by first | exact Or.inl rfl | exact Or.inr rfl) (se_call (O.o__law_saying) hk (pas_of (takes_of rfl rfl rfl rfl)) rfl T.m__law_saying T.F__law_saying.kp T.b__law_saying (sa_cons (se_var 0) (sa_cons (se_slice (se_var 2) so_none (so_some se_int)) (sa_cons (SimL.loc (sl_lst (sa_cons se_int sa_nil))) (sa_cons se_int sa_nil))))))
    (sb_cons (ss_set 5 nd rfl (by first | exact Or.inl rfl | exact Or.inr rfl) (SimL.val (sl_lst (sa_cons (se_var 3) (sa_cons (se_tup (sa_cons se_str (sa_cons (se_tup (sa_cons se_str (sa_cons (se_var 1) sa_nil))) sa_nil))) (sa_cons (se_tup (sa_cons se_str (sa_cons (se_tup (sa_cons se_str (sa_cons (se_var 1) sa_nil))) (sa_cons (se_tup (sa_cons se_str sa_nil)) sa_nil)))) (sa_cons (se_tup (sa_cons se_str (sa_cons (se_var 1) (sa_cons (se_var 3) sa_nil)))) sa_nil)))))))
    (sb_cons (ss_for (passes_of rfl) rfl (si_list (se_var 5)) (sg_name 6 nd rfl (by first | exact Or.inl rfl | exact Or.inr rfl)) (sb_cons (ss_set 7 nd rfl (by first | exact Or.inl rfl | exact Or.inr rfl) (se_call (O.o_same) hk (pas_of (takes_of rfl rfl rfl rfl)) rfl T.m_same T.F_same.kp T.b_same (sa_cons (se_var 1) (sa_cons (se_var 6) sa_nil))))
    (sb_one (ss_if (SimW.t (sw_or (st_not (st_val (se_callB cs_isi rfl T.z_isinstance (by decide +kernel) (sa_cons (se_var 7) (sa_cons (se_ty "bool" rfl T.z_bool (by decide +kernel)) sa_nil))))) (sw_or1 (st_cmp (os_ne hu64) noX_ne (se_var 7) (se_call (O.o__law_alike) hk (pas_of (takes_of rfl rfl rfl rfl)) rfl T.m__law_alike T.F__law_alike.kp T.b__law_alike (sa_cons (se_var 1) (sa_cons (se_var 6) (sa_cons (se_slice (se_var 2) so_none (so_some se_int)) sa_nil)))) (nomark _))))) (sb_one (ss_ret se_bl)) sb_nil))))
    (sb_one (ss_ret se_bl)))))))
set_option maxHeartbeats 4000000 in
theorem sim_law {k : Nat} (T : Txt w K mg) (O : Oks P base T k) (cdv : Value) (A : Around) (outer : List Env) (s : Shared) (H : Hp) (E : XK) (hr : Room (k + 2) (A.deeper (PyProof.Rows.envOfC "law" (defScope s_law) s.heap.objs.size T.a_law cdv))) :
    SimB (cxOf (L2.CX P w) P w K mg base n_law "law" (defScope s_law) T.a_law cdv A outer s H E) (fun cls d _ H2 => E cls d H2) (defBody s_law) (b_law (call k)) := by
  have nd := sc_law.nd
  have hk : Room (k + 2) (A.deeper (PyProof.Rows.envOfC "law" (defScope s_law) s.heap.objs.size T.a_law cdv)) := hr.mono (by omega)
  have hu66 := hr.un
  have hu64 : (A.deeper (PyProof.Rows.envOfC "law" (defScope s_law) s.heap.objs.size T.a_law cdv)).units + 64 < cLine := by omega
  have hu1 : (A.deeper (PyProof.Rows.envOfC "law" (defScope s_law) s.heap.objs.size T.a_law cdv)).units + 1 < cLine := by omega
  have hu67 : (A.deeper (PyProof.Rows.envOfC "law" (defScope s_law) s.heap.objs.size T.a_law cdv)).units + 67 < cLine := by omega
  replace hu66 : (A.deeper (PyProof.Rows.envOfC "law" (defScope s_law) s.heap.objs.size T.a_law cdv)).units + 66 < cLine := by omega
  exact (sb_cons (ss_set 1 nd rfl (by first | exact Or.inl rfl | exact Or.inr rfl) (se_call (O.o__law_tape) hk (pas_of (takes_of rfl rfl rfl rfl)) rfl T.m__law_tape T.F__law_tape.kp T.b__law_tape (sa_cons (se_var 0) sa_nil)))
    (sb_cons (ss_set 2 nd rfl (by first | exact Or.inl rfl | exact Or.inr rfl) (se_call (O.o__law_words) hk (pas_of (takes_of rfl rfl rfl rfl)) rfl T.m__law_words T.F__law_words.kp T.b__law_words (sa_cons (se_var 1) (sa_cons se_int sa_nil))))
    (sb_cons (ss_if (st_not (st_val (se_call (O.o__law_bare_right) hk (pas_of (takes_of rfl rfl rfl rfl)) rfl T.m__law_bare_right T.F__law_bare_right.kp T.b__law_bare_right (sa_cons (se_var 1) sa_nil)))) (sb_one (ss_ret se_bl)) sb_nil)
    (sb_cons (ss_for (passes_of rfl) rfl (si_range1 rfl T.z_range (sa_cons se_int sa_nil)) (sg_name 3 nd rfl (by first | exact Or.inl rfl | exact Or.inr rfl)) (sb_cons (ss_set 4 nd rfl (by first | exact Or.inl rfl | exact Or.inr rfl) (se_call (O.o__law_saying) hk (pas_of (takes_of rfl rfl rfl rfl)) rfl T.m__law_saying T.F__law_saying.kp T.b__law_saying (sa_cons (se_var 1) (sa_cons (se_slice (se_var 2) so_none (so_some se_int)) (sa_cons (SimL.loc (sl_lst (sa_cons (se_ix hu1 (SimL.val (sl_lst (sa_cons se_int (sa_cons se_int sa_nil)))) (se_call (O.o__law_draw) hk (pas_of (takes_of rfl rfl rfl rfl)) rfl T.m__law_draw T.F__law_draw.kp T.b__law_draw (sa_cons (se_var 1) (sa_cons se_int sa_nil)))) sa_nil))) (sa_cons se_int sa_nil))))))
    (sb_cons (ss_set 5 nd rfl (by first | exact Or.inl rfl | exact Or.inr rfl) (se_ix hu1 (SimL.val (sl_lst (sa_cons se_int (sa_cons se_int (sa_cons se_int (sa_cons (se_op os_add noX_add se_int (se_call (O.o__law_draw) hk (pas_of (takes_of rfl rfl rfl rfl)) rfl T.m__law_draw T.F__law_draw.kp T.b__law_draw (sa_cons (se_var 1) (sa_cons se_int sa_nil)))) sa_nil)))))) (se_call (O.o__law_draw) hk (pas_of (takes_of rfl rfl rfl rfl)) rfl T.m__law_draw T.F__law_draw.kp T.b__law_draw (sa_cons (se_var 1) (sa_cons se_int sa_nil)))))
    (sb_cons (ss_set 6 nd rfl (by first | exact Or.inl rfl | exact Or.inr rfl) (se_call (O.o__law_draw) hk (pas_of (takes_of rfl rfl rfl rfl)) rfl T.m__law_draw T.F__law_draw.kp T.b__law_draw (sa_cons (se_var 1) (sa_cons se_int sa_nil))))
    (sb_cons (ss_set 7 nd rfl (by first | exact Or.inl rfl | exact Or.inr rfl) (SimL.val (sl_step (se_op os_add noX_add (se_slice (se_slice (se_var 2) so_none (so_some (se_var 5))) (so_some (se_var 6)) so_none) (se_slice (se_slice (se_var 2) so_none (so_some (se_var 5))) so_none (so_some (se_var 6)))) (se_ix hu1 (SimL.val (sl_lst (sa_cons se_int (sa_cons (se_un us_neg se_int) sa_nil)))) (se_call (O.o__law_draw) hk (pas_of (takes_of rfl rfl rfl rfl)) rfl T.m__law_draw T.F__law_draw.kp T.b__law_draw (sa_cons (se_var 1) (sa_cons se_int sa_nil)))))))
    (sb_cons (And.left (ss_setComp 8 rfl nd rfl rfl (sw_true rfl rfl rfl (by decide +kernel)) (si_list (se_call (O.o_names_of) hk (pas_of (takes_of rfl rfl rfl rfl)) rfl T.m_names_of T.F_names_of.kp T.b_names_of (sa_cons (se_var 4) sa_nil))) (blkOk_by (own := [("_law_name", 10)]) (N := n_law) (sc := defScope s_law) (by decide +kernel)) (fun _ _ _ _ _ => (sg_name 10 nd rfl (by first | exact Or.inl rfl | exact Or.inr rfl))) (fun _ _ _ _ _ => (ts_one (st_cmp (os_nin hu66) noX_nin (se_var 10) (se_var 7) (by rfl)))) (fun _ _ _ _ _ => (se_var 10))))
    (sb_cons (ss_set 9 nd rfl (by first | exact Or.inl rfl | exact Or.inr rfl) (se_call (O.o__law_told) hk (pas_of (takes_of rfl rfl rfl rfl)) rfl T.m__law_told T.F__law_told.kp T.b__law_told (sa_cons (se_var 4) (sa_cons (SimL.val (sl_callTy cl_list rfl T.z_list (by decide +kernel) (sa_cons (se_var 7) sa_nil))) sa_nil))))
    (sb_cons (ss_if (st_cmp (os_ne hu64) noX_ne (se_var 8) (SimL.val (sl_lst sa_nil)) (nomark _)) (sb_one (ss_if (st_cmp (os_ne hu64) noX_ne (se_var 9) (se_tup (sa_cons (se_ix hu1 (se_var 8) se_int) sa_nil)) (nomark _)) (sb_one (ss_ret se_bl)) sb_nil)) (sb_one (ss_if (SimW.t (sw_or (st_val (se_callB cs_isi rfl T.z_isinstance (by decide +kernel) (sa_cons (se_var 9) (sa_cons (se_ty "bool" rfl T.z_bool (by decide +kernel)) sa_nil)))) (sw_or (st_not (st_val (se_callB cs_isi rfl T.z_isinstance (by decide +kernel) (sa_cons (se_var 9) (sa_cons (se_ty "int" rfl T.z_int (by decide +kernel)) sa_nil))))) (sw_or1 (st_not (st_chain os_le noX_le os_lt noX_lt se_int (se_var 9) (se_op os_shl noX_shl se_int (se_op os_shl noX_shl se_int (se_var 5))))))))) (sb_one (ss_ret se_bl)) (sb_cons (ss_set 11 nd rfl (by first | exact Or.inl rfl | exact Or.inr rfl) (se_if (st_cmp os_lt noX_lt (se_var 5) se_int (nomark _)) (SimL.val (sl_listRg rfl rfl T.z_list rfl T.z_range (se_op os_shl noX_shl se_int (se_var 5)))) (se_op os_add noX_add (SimL.val (sl_comp rfl nd (si_range1 rfl T.z_range (sa_cons se_int sa_nil)) (blkOk_by (own := [("_law_k", 13)]) (N := n_law) (sc := defScope s_law) (by decide +kernel)) (fun _ _ _ _ _ => (sg_name 13 nd rfl (by first | exact Or.inl rfl | exact Or.inr rfl))) (fun _ _ _ _ _ => ts_nil) (fun _ _ _ _ _ => (se_call (O.o__law_draw) hk pas_none rfl T.m__law_draw T.F__law_draw.kp T.b__law_draw (sa_cons (se_var 1) (sa_cons se_int sa_nil)))))) (SimL.val (sl_lst (sa_cons se_int (sa_cons se_int sa_nil)))))))
    (sb_one (ss_for (passes_of rfl) rfl (si_list (se_var 11)) (sg_name 12 nd rfl (by first | exact Or.inl rfl | exact Or.inr rfl)) (sb_one (ss_if (st_cmp (os_ne hu64) noX_ne (se_cmp (os_eq hu64) noX_eq (se_op os_and noX_and (se_op os_shr noX_shr (se_var 9) (se_var 12)) se_int) se_int (nomark _)) (se_call (O.o__law_value) hk (pas_of (takes_of rfl rfl rfl rfl)) rfl T.m__law_value T.F__law_value.kp T.b__law_value (sa_cons (se_var 4) (sa_cons (se_call (O.o__law_row) hk (pas_of (takes_of rfl rfl rfl rfl)) rfl T.m__law_row T.F__law_row.kp T.b__law_row (sa_cons (se_var 7) (sa_cons (se_var 12) sa_nil))) sa_nil))) (nomark _)) (sb_one (ss_ret se_bl)) sb_nil))))))))
    (sb_one (ss_if (st_not (st_val (se_call (O.o__law_sames_right) hk (pas_of (takes_of rfl rfl rfl rfl)) rfl T.m__law_sames_right T.F__law_sames_right.kp T.b__law_sames_right (sa_cons (se_var 1) (sa_cons (se_var 4) (sa_cons (se_var 2) sa_nil)))))) (sb_one (ss_ret se_bl)) sb_nil))))))))))
    (sb_one (ss_ret se_bl))))))
set_option maxHeartbeats 0 in
theorem oks (T : Txt w K mg) : ∀ k, Oks P base T k
  | 0 => ⟨fn_bad (fun _ _ => rfl) _ _, fn_bad (fun _ _ => rfl) _ _, fn_bad (fun _ _ => rfl) _ _, fn_bad (fun _ _ => rfl) _ _, fn_bad (fun _ _ => rfl) _ _, fn_bad (fun _ _ => rfl) _ _, fn_bad (fun _ _ => rfl) _ _, fn_bad (fun _ _ => rfl) _ _, fn_bad (fun _ _ => rfl) _ _, fn_bad (fun _ _ => rfl) _ _, fn_bad (fun _ _ => rfl) _ _, fn_bad (fun _ _ => rfl) _ _, fn_bad (fun _ _ => rfl) _ _, fn_bad (fun _ _ => rfl) _ _, fn_bad (fun _ _ => rfl) _ _, fn_bad (fun _ _ => rfl) _ _, fn_bad (fun _ _ => rfl) _ _, fn_bad (fun _ _ => rfl) _ _, fn_bad (fun _ _ => rfl) _ _, fn_bad (fun _ _ => rfl) _ _, fn_bad (fun _ _ => rfl) _ _⟩
  | k + 1 => by
    have O := oks T k
    exact ⟨fn_sim T.F_collect sc_collect (fun _ _ _ => rfl) (sim_collect T O),
      fn_sim T.F_names_of sc_names_of (fun _ _ _ => rfl) (sim_names_of T O),
      fn_sim T.F_need_names sc_need_names (fun _ _ _ => rfl) (sim_need_names T O),
      fn_sim T.F_full_of sc_full_of (fun _ _ _ => rfl) (sim_full_of T O),
      fn_sim T.F_table_of_name sc_table_of_name (fun _ _ _ => rfl) (sim_table_of_name T O),
      fn_sim T.F_joined_tables sc_joined_tables (fun _ _ _ => rfl) (sim_joined_tables T O),
      fn_sim T.F_table_in sc_table_in (fun _ _ _ => rfl) (sim_table_in T O),
      fn_sim T.F_table sc_table (fun _ _ _ => rfl) (sim_table T O),
      fn_sim T.F_same sc_same (fun _ _ _ => rfl) (sim_same T O),
      fn_sim T.F__law_tape sc_law_tape (fun _ _ _ => rfl) (sim_law_tape T O),
      fn_sim T.F__law_draw sc_law_draw (fun _ _ _ => rfl) (sim_law_draw T O),
      fn_sim T.F__law_words sc_law_words (fun _ _ _ => rfl) (sim_law_words T O),
      fn_sim T.F__law_saying sc_law_saying (fun _ _ _ => rfl) (sim_law_saying T O),
      fn_sim T.F__law_value sc_law_value (fun _ _ _ => rfl) (sim_law_value T O),
      fn_sim T.F__law_row sc_law_row (fun _ _ _ => rfl) (sim_law_row T O),
      fn_sim T.F__law_told sc_law_told (fun _ _ _ => rfl) (sim_law_told T O),
      fn_sim T.F__law_alike sc_law_alike (fun _ _ _ => rfl) (sim_law_alike T O),
      fn_sim T.F__law_but_one sc_law_but_one (fun _ _ _ => rfl) (sim_law_but_one T O),
      fn_sim T.F__law_bare_right sc_law_bare_right (fun _ _ _ => rfl) (sim_law_bare_right T O),
      fn_sim T.F__law_sames_right sc_law_sames_right (fun _ _ _ => rfl) (sim_law_sames_right T O),
      fn_sim T.F_law sc_law (fun _ _ _ => rfl) (sim_law T O)⟩
end
end Law
namespace DL
open PySem PySem.Spec L2
structure Y {α : Type} (r : R α) (Q : α → Sto → Prop) : Prop where
  out : Pst r Q (fun _ _ => False)
theorem Y.ok {α : Type} {r : R α} {Q : α → Sto → Prop} (h : Y r Q) : ∃ a S, r = .ok a S ∧ Q a S := by
  cases r with
  | ok a S => exact ⟨a, S, rfl, h.out⟩
  | exc x S => exact h.out.elim
  | bad => exact h.out.elim
theorem Y.of {α : Type} {r : R α} {Q : α → Sto → Prop} {a : α} {S : Sto} (e : r = .ok a S) (h : Q a S) : Y r Q := by rw [e]; exact ⟨h⟩
theorem Y.mono {α : Type} {r : R α} {P Q : α → Sto → Prop} (h : Y r P) (q : ∀ a S, P a S → Q a S) : Y r Q := ⟨Pst.mono h.out q fun _ _ z => z⟩
theorem y_ok {α : Type} {a : α} {S : Sto} {Q : α → Sto → Prop} (h : Q a S) : Y (.ok a S) Q := ⟨h⟩
theorem Y.bad {α : Type} {Q : α → Sto → Prop} (h : Y (.bad : R α) Q) : False := h.out
theorem y_bind {α β : Type} {r : R α} {k : α → Sto → R β} {Q : β → Sto → Prop} (h : Y r fun a S => Y (k a S) Q) : Y (r.bind k) Q := by
  obtain ⟨a, S, rfl, h1⟩ := h.ok
  exact h1
theorem y_guard {α : Type} {c : Bool} {r : R α} {Q : α → Sto → Prop} (hc : c = true) (h : Y r Q) : Y (guard c r) Q := by rw [hc]; exact h
section
variable {d : En} {S : Sto} {Q : U → Sto → Prop} {QB : Bool → Sto → Prop} {QA : List U → Sto → Prop} {fa fb fc f : FE} {ta tb : FT} {u : U} {i : Nat}
theorem y_C (h : Q u S) : Y (fC u d S) Q := ⟨h⟩
theorem y_var (e : d[i]? = some (some u)) (h : Q u S) : Y (fVar i d S) Q := by unfold fVar; rw [e]; exact ⟨h⟩
theorem y_f2 {g : U → U → Sto → R U} (h : Y (fa d S) fun x S1 => Y (fb d S1) fun y S2 => Y (g x y S2) Q) : Y (f2 g fa fb d S) Q := y_bind (h.mono fun x S1 h1 => y_bind h1)
theorem y_f1 {g : U → Sto → R U} (h : Y (fa d S) fun x S1 => Y (g x S1) Q) : Y (f1 g fa d S) Q := y_bind h
def unB (u : U) (S : Sto) : R Bool := match u with
  | .bl b => .ok b S
  | _ => .bad
theorem y_asB {r : R U} (h : Y r fun u S1 => Y (unB u S1) QB) : Y (asB r) QB := y_bind h
theorem y_unB {b : Bool} (h : QB b S) : Y (unB (.bl b) S) QB := ⟨h⟩
theorem y_B (h : Y (f d S) fun u S1 => Y (unB u S1) QB) : Y (fB f d S) QB := y_asB h
theorem y_ch {g g' : U → U → Sto → R U} (h : Y (fa d S) fun x S1 => Y (fb d S1) fun y S2 => Y (g x y S2) fun z S3 => Y (unB z S3) fun b S4 => if b = true then Y (fc d S4) fun t S5 => Y (g' y t S5) Q else Q (.bl false) S4) : Y (fCh g g' fa fb fc d S) Q := by
  refine y_bind (h.mono fun x S1 h1 => y_bind (h1.mono fun y S2 h2 => y_bind (h2.mono fun z S3 h3 => ?_)))
  cases z with
  | bl b =>
    cases b with
    | true => exact y_bind (show Y (fc d S3) _ from h3.out)
    | false => exact ⟨h3.out⟩
  | _ => exact h3.out.elim
theorem y_tru (h : Y (f d S) fun u S1 => Y (oB (truU u S1) S1) QB) : Y (fTru f d S) QB := y_bind h
theorem y_tbl {b : Bool} (h : QB b S) : Y (oB (truU (.bl b) S) S) QB := ⟨h⟩
theorem y_and (h : Y (ta d S) fun b S1 => if b = true then Y (tb d S1) QB else QB false S1) : Y (fAnd ta tb d S) QB := y_bind (h.mono fun b S1 h1 => by cases b <;> first | exact h1 | exact ⟨h1⟩)
theorem y_or (h : Y (ta d S) fun b S1 => if b = true then QB true S1 else Y (tb d S1) QB) : Y (fOr ta tb d S) QB := y_bind (h.mono fun b S1 h1 => by cases b <;> first | exact h1 | exact ⟨h1⟩)
theorem y_not (h : Y (ta d S) fun b S1 => QB (!b) S1) : Y (fNot ta d S) QB := y_bind (h.mono fun b S1 h1 => ⟨h1⟩)
theorem y_andV (h : Y (fa d S) fun u S1 => Y (oB (truU u S1) S1) fun b S2 => if b = true then Y (fb d S2) Q else Q u S2) : Y (fAndV fa fb d S) Q := y_bind (h.mono fun u S1 h1 => by
  cases e : truU u S1 with
  | none => rw [e] at h1; exact h1.out.elim
  | some b => rw [e] at h1; cases b <;> first | exact h1.out | exact ⟨h1.out⟩)
theorem y_orV (h : Y (fa d S) fun u S1 => Y (oB (truU u S1) S1) fun b S2 => if b = true then Q u S2 else Y (fb d S2) Q) : Y (fOrV fa fb d S) Q := y_bind (h.mono fun u S1 h1 => by
  cases e : truU u S1 with
  | none => rw [e] at h1; exact h1.out.elim
  | some b => rw [e] at h1; cases b <;> first | exact h1.out | exact ⟨h1.out⟩)
theorem y_notV (h : Y (fa d S) fun u S1 => Y (oB (truU u S1) S1) fun b S2 => Q (.bl (!b)) S2) : Y (fNotV fa d S) Q := y_bind (h.mono fun u S1 h1 => by
  cases e : truU u S1 with
  | none => rw [e] at h1; exact h1.out.elim
  | some b => rw [e] at h1; exact ⟨h1.out⟩)
theorem y_if {α : Type} {Q : α → Sto → Prop} {x y : En → Sto → R α} (h : Y (ta d S) fun b S1 => if b = true then Y (x d S1) Q else Y (y d S1) Q) : Y (fIf ta x y d S) Q := y_bind (h.mono fun b S1 h1 => by cases b <;> exact h1)
theorem y_nil (h : QA [] S) : Y (aNil d S) QA := ⟨h⟩
theorem y_cons {g : FA} (h : Y (f d S) fun u S1 => Y (g d S1) fun us S2 => QA (u :: us) S2) : Y (aCons f g d S) QA := y_bind (h.mono fun u S1 h1 => y_bind (h1.mono fun us S2 h2 => ⟨h2⟩))
theorem y_tup {g : FA} (h : Y (g d S) fun us S1 => us.length ≤ sizeLine ∧ Q (.tup us) S1) : Y (fTup g d S) Q := y_bind (h.mono fun us S1 h1 => by rw [if_pos h1.1]; exact ⟨h1.2⟩)
theorem y_lst {g : FA} (h : Y (g d S) fun us S1 => us.length ≤ sizeLine ∧ QA us S1) : Y (aLst g d S) QA := y_bind (h.mono fun us S1 h1 => by rw [if_pos h1.1]; exact ⟨h1.2⟩)
theorem y_val {g : FA} (h : Y (g d S) fun us S1 => Q (.lst us) S1) : Y (fVal g d S) Q := y_bind (h.mono fun _ _ h1 => ⟨h1⟩)
theorem y_loc {g : FA} (h : Y (g d S) fun us S1 => Q (.loc S1.length) (S1 ++ [.lst us])) : Y (fLoc g d S) Q := y_bind (h.mono fun _ _ h1 => ⟨h1⟩)
theorem y_dval {g : FD} (h : Y (g d S) fun p S1 => Q (.dic p.1 p.2) S1) : Y (fDval g d S) Q := y_bind (h.mono fun _ _ h1 => ⟨h1⟩)
theorem y_dloc {g : FD} (h : Y (g d S) fun p S1 => Q (.loc S1.length) (S1 ++ [.dic p.1 p.2])) : Y (fDloc g d S) Q := y_bind (h.mono fun _ _ h1 => ⟨h1⟩)
theorem y_ice (h : Y (f d S) fun u S1 => ∃ n us, u = .loc n ∧ S1[n]? = some (.lst us) ∧ Q (.lst us) (S1.set n .dead)) : Y (fIce f d S) Q := y_bind (h.mono fun u S1 ⟨n, us, e, e2, h1⟩ => by
  subst e
  show Y (match S1[n]? with
    | some (.lst us) => .ok (.lst us) (S1.set n .dead)
    | some (.dic ks us) => .ok (.dic ks us) (S1.set n .dead)
    | _ => .bad) Q
  rw [e2]
  exact ⟨h1⟩)
theorem y_oNone {QO : Option Int → Sto → Prop} (h : QO none S) : Y (oNone d S) QO := ⟨h⟩
theorem y_oSome {QO : Option Int → Sto → Prop} (h : Y (f d S) fun u S1 => ∃ i, u = .int i ∧ QO (some i) S1) : Y (oSome f d S) QO := y_bind (h.mono fun u S1 ⟨i, e, h1⟩ => by subst e; exact ⟨h1⟩)
theorem y_sl {l h' : FO} (h : Y (f d S) fun u S1 => Y (l d S1) fun lo S2 => Y (h' d S2) fun hi S3 => Y (oU (slB u lo hi S3) S3) Q) : Y (fSl f l h' d S) Q := y_bind (h.mono fun u S1 h1 => y_bind (h1.mono fun lo S2 h2 => y_bind h2))
theorem y_oU {o : Option U} (e : o = some u) (h : Q u S) : Y (oU o S) Q := by rw [e]; exact ⟨h⟩
theorem y_A {α : Type} {g : List U → Sto → R α} {fa : FA} {Q : α → Sto → Prop} (h : Y (fa d S) fun us S1 => Y (g us S1) Q) : Y (fA g fa d S) Q := y_bind h
theorem y_call {n : Nat} {g : List U → Sto → R U} {fa : FA} (h : Y (fa d S) fun us S1 => (us.length == n) = true ∧ Y (g us S1) Q) : Y (fCall n g fa d S) Q := y_bind (h.mono fun us S1 h1 => y_guard h1.1 h1.2)
theorem y_M {T : String} {g : U → List U → Sto → R U} {fo : FE} {fa : FA} (h : Y (fo d S) fun u S1 => tyU T u S1 = true ∧ Y (fa d S1) fun us S2 => Y (g u us S2) Q) : Y (fM T g fo fa d S) Q := y_bind (h.mono fun u S1 h1 => y_guard h1.1 (y_bind h1.2))
theorem y_wget {tab : List (Str × U)} (h : Y (f d S) fun u S1 => ∃ z, u = .str z ∧ Q ((lookT tab z).getD .non) S1) : Y (fWget tab f d S) Q := y_bind (h.mono fun u S1 ⟨z, e, h1⟩ => by subst e; exact ⟨h1⟩)
theorem y_over {p : U → Option (List U)} (h : Y (f d S) fun u S1 => ∃ us, p u = some us ∧ QA us S1) : Y (aOver p f d S) QA := y_bind (h.mono fun u S1 ⟨us, e, h1⟩ => by
  show Y (match p u with
    | some us => .ok us S1
    | none => .bad) QA
  rw [e]
  exact ⟨h1⟩)
theorem y_rng1 {g : FA} (h : Y (g d S) fun us S1 => ∃ j, us = [.int j] ∧ -(2 ^ 62) ≤ j ∧ j < 2 ^ 62 ∧ QA (rngU 0 1 j.toNat) S1) : Y (aRng1 g d S) QA := y_bind (h.mono fun us S1 ⟨j, e, h1, h2, h3⟩ => by
  subst e
  exact y_guard (by rw [decide_eq_true h1, decide_eq_true h2]; rfl) ⟨h3⟩)
theorem y_addI {i j : Int} (h : Q (.int (i + j)) S) : Y (addU (.int i) (.int j) S) Q := ⟨h⟩
theorem y_addS {x y : Str} (hl : x.length + y.length ≤ sizeLine) (h : Q (.str (x ++ y)) S) : Y (addU (.str x) (.str y) S) Q := y_guard (decide_eq_true hl) ⟨h⟩
theorem y_addL {x y : List U} (hl : x.length + y.length ≤ sizeLine) (h : Q (.lst (x ++ y)) S) : Y (addU (.lst x) (.lst y) S) Q := y_guard (decide_eq_true hl) ⟨h⟩
theorem y_subI {i j : Int} (h : Q (.int (i - j)) S) : Y (subU (.int i) (.int j) S) Q := ⟨h⟩
theorem y_mulI {i j : Int} (hm : mulOk i j = true) (h : Q (.int (i * j)) S) : Y (mulU (.int i) (.int j) S) Q := y_guard hm ⟨h⟩
theorem y_fdivI {i j : Int} (h1 : 0 < j) (h2 : j.natAbs.log2 < 9000) (h : Q (.int (i / j)) S) : Y (fdivU (.int i) (.int j) S) Q := y_guard (by simp [h1, h2]) ⟨h⟩
theorem y_modI {i j : Int} (h1 : 0 < j) (h : Q (.int (i % j)) S) : Y (modU (.int i) (.int j) S) Q := y_guard (decide_eq_true h1) ⟨h⟩
theorem y_powI {i j : Int} (h1 : 0 ≤ j) (h2 : j ≤ 1000000) (h3 : i.natAbs < 2 ^ 64) (h : Q (.int (i ^ j.toNat)) S) : Y (powU (.int i) (.int j) S) Q := y_guard (by simp [h1, h2, h3]) ⟨h⟩
theorem y_ltI {i j : Int} (h : Q (.bl (decide (i < j))) S) : Y (ltU (.int i) (.int j) S) Q := ⟨h⟩
theorem y_leI {i j : Int} (h : Q (.bl (decide (i ≤ j))) S) : Y (leU (.int i) (.int j) S) Q := ⟨h⟩
theorem y_gtI {i j : Int} (h : Q (.bl (decide (j < i))) S) : Y (gtU (.int i) (.int j) S) Q := ⟨h⟩
theorem y_geI {i j : Int} (h : Q (.bl (decide (j ≤ i))) S) : Y (geU (.int i) (.int j) S) Q := ⟨h⟩
theorem y_isN {x : U} (h : Q (.bl (isNon x)) S) : Y (isU x .non S) Q := ⟨h⟩
theorem y_isnN {x : U} (h : Q (.bl (!isNon x)) S) : Y (isnU x .non S) Q := ⟨h⟩
theorem y_eqF {x y : U} (hs : scalU x y = true) (h : Q (.bl (eqF x y)) S) : Y (eqU x y S) Q := by
  unfold eqU eqOk; rw [hs]; exact ⟨h⟩
theorem y_neF {x y : U} (hs : scalU x y = true) (h : Q (.bl (!eqF x y)) S) : Y (neU x y S) Q := by
  unfold neU eqOk; rw [hs]; exact ⟨h⟩
theorem y_eqI {i j : Int} (h : Q (.bl (decide (i = j))) S) : Y (eqU (.int i) (.int j) S) Q := y_eqF rfl h
theorem y_neI {i j : Int} (h : Q (.bl (!decide (i = j))) S) : Y (neU (.int i) (.int j) S) Q := y_neF rfl h
theorem y_eqB {i j : Bool} (h : Q (.bl (i == j)) S) : Y (eqU (.bl i) (.bl j) S) Q := y_eqF rfl h
theorem y_neB {i j : Bool} (h : Q (.bl (!(i == j))) S) : Y (neU (.bl i) (.bl j) S) Q := y_neF rfl h
theorem str_beq (x y : Str) : (x == y) = decide (x = y) := by
  by_cases q : x = y
  · subst q; simp
  · rw [decide_eq_false q]; simp [q]
theorem y_eqS {x y : Str} (h : Q (.bl (decide (x = y))) S) : Y (eqU (.str x) (.str y) S) Q := y_eqF rfl (show Q (.bl (x == y)) S by rw [str_beq]; exact h)
theorem y_neS {x y : Str} (h : Q (.bl (!decide (x = y))) S) : Y (neU (.str x) (.str y) S) Q := y_neF rfl (show Q (.bl (!(x == y))) S by rw [str_beq]; exact h)
theorem atI_mem {α : Type} {xs : List α} {i : Int} (h0 : 0 ≤ i) (h1 : i < xs.length) : ∃ x, x ∈ xs ∧ xs[i.toNat]? = some x ∧ atI xs i = some x := by
  obtain ⟨n, rfl⟩ := Int.eq_ofNat_of_zero_le h0
  have hn : n < xs.length := by omega
  refine ⟨xs[n], List.getElem_mem hn, ?_, atI_nat (List.getElem?_eq_getElem hn)⟩
  show xs[n]? = _
  exact List.getElem?_eq_getElem hn
theorem y_ixL {us : List U} {i : Int} (h0 : 0 ≤ i) (h1 : i < us.length) (h : ∀ u, u ∈ us → us[i.toNat]? = some u → Q u S) : Y (ixU (.lst us) (.int i) S) Q := by
  obtain ⟨x, hx, e1, e2⟩ := atI_mem h0 h1
  exact y_oU (show ixB (.lst us) (.int i) S = some x from e2) (h x hx e1)
theorem y_ixS {z : Str} {i : Int} (hz : z.length ≤ sizeLine) (h0 : 0 ≤ i) (h1 : i < z.cps.toList.length) (h : ∀ c, c ∈ z.cps.toList → z.cps.toList[i.toNat]? = some c → Q (.str ⟨#[c]⟩) S) : Y (ixU (.str z) (.int i) S) Q := by
  obtain ⟨x, hx, e1, e2⟩ := atI_mem h0 h1
  refine y_oU (u := .str ⟨#[x]⟩) ?_ (h x hx e1)
  show (if z.length ≤ sizeLine then (atI z.cps.toList i).map fun c => U.str ⟨#[c]⟩ else none) = _
  rw [if_pos hz, e2]
  rfl
end
structure EU where
  nx : En → Sto → Prop
  rt : U → Sto → Prop
  bk : En → Sto → Prop := fun _ _ => False
  ct : En → Sto → Prop := fun _ _ => False
  ex : Exc → En → Sto → Prop := fun _ _ _ => False
def wS (r : R Fl) (D : EU) : Prop := match r with
  | .ok (.nx d) S => D.nx d S
  | .ok (.rt u) S => D.rt u S
  | .ok (.bk d) S => D.bk d S
  | .ok (.ct d) S => D.ct d S
  | .ok (.ex x d) S => D.ex x d S
  | _ => False
structure WS (r : R Fl) (D : EU) : Prop where
  out : wS r D
section
variable {d : En} {S : Sto} {D : EU} {f : FE} {g h : FS} {t : FT} {i : Nat}
theorem ws_toS {α : Type} {r : R α} {k : α → Sto → R Fl} (h : Y r fun a S1 => WS (k a S1) D) : WS (toS d r k) D := by
  obtain ⟨a, S, rfl, h1⟩ := h.ok
  exact h1
theorem w_nop (h : D.nx d S) : WS (fNop d S) D := ⟨h⟩
theorem w_expr (h : Y (f d S) fun _ S1 => D.nx d S1) : WS (fExpr f d S) D := ws_toS (h.mono fun _ _ h1 => ⟨h1⟩)
theorem w_ret (h : Y (f d S) fun u S1 => D.rt u S1) : WS (fRet f d S) D := ws_toS (h.mono fun _ _ h1 => ⟨h1⟩)
theorem w_retN (h : D.rt .non S) : WS (fRetN d S) D := ⟨h⟩
theorem w_brk (h : D.bk d S) : WS (fBrk d S) D := ⟨h⟩
theorem w_ct (h : D.ct d S) : WS (fCt d S) D := ⟨h⟩
theorem w_set (h : Y (f d S) fun u S1 => D.nx (d.set i (some u)) S1) : WS (fSet i f d S) D := ws_toS (h.mono fun _ _ h1 => ⟨h1⟩)
theorem w_asg {gt : U → En → Option En} (h : Y (f d S) fun u S1 => ∃ d', gt u d = some d' ∧ D.nx d' S1) : WS (fAsg gt f d S) D := ws_toS (h.mono fun u S1 ⟨d', e, h1⟩ => by
  show WS (match gt u d with
    | some d' => .ok (.nx d') S1
    | none => .bad) D
  rw [e]
  exact ⟨h1⟩)
theorem w_seq (h1 : WS (g d S) { D with nx := fun d1 S1 => WS (h d1 S1) D }) : WS (fSeq g h d S) D := by
  unfold fSeq
  cases e : g d S with
  | ok fl S1 =>
    rw [e] at h1
    cases fl <;> first | exact h1.out | exact ⟨h1.out⟩
  | exc x S => rw [e] at h1; exact h1.out.elim
  | bad => rw [e] at h1; exact h1.out.elim
theorem w_if (h1 : Y (t d S) fun b S1 => if b = true then WS (g d S1) D else WS (h d S1) D) : WS (fIfS t g h d S) D := ws_toS (h1.mono fun b S1 h2 => by cases b <;> exact h2)
theorem w_store {fe fo fi : FE} (h : Y (fe d S) fun v S1 => Y (fo d S1) fun o S2 => Y (fi d S2) fun i S3 => ∃ S4, stU o i v S3 = some S4 ∧ D.nx d S4) : WS (fStore fe fo fi d S) D :=
  ws_toS (h.mono fun v S1 h1 => ws_toS (h1.mono fun o S2 h2 => ws_toS (h2.mono fun i S3 ⟨S4, e, h3⟩ => by
    show WS (match stU o i v S3 with
      | some S4 => .ok (.nx d) S4
      | none => .bad) D
    rw [e]
    exact ⟨h3⟩)))
theorem WS.mono {r : R Fl} {D D' : EU} (h : WS r D) (h1 : ∀ d S, D.nx d S → D'.nx d S) (h2 : ∀ u S, D.rt u S → D'.rt u S) (h3 : ∀ d S, D.bk d S → D'.bk d S) (h4 : ∀ d S, D.ct d S → D'.ct d S) (h5 : ∀ x d S, D.ex x d S → D'.ex x d S) : WS r D' := by
  cases r with
  | ok fl S => cases fl with
    | nx d => exact ⟨h1 d S h.out⟩
    | rt u => exact ⟨h2 u S h.out⟩
    | bk d => exact ⟨h3 d S h.out⟩
    | ct d => exact ⟨h4 d S h.out⟩
    | ex x d => exact ⟨h5 x d S h.out⟩
  | exc x S => exact h.out.elim
  | bad => exact h.out.elim
theorem w_loop {gt : U → En → Option En} {g : FS} {D : EU} (I : List U → En → Sto → Prop)
    (h : ∀ u us d S, I (u :: us) d S → ∃ d1, gt u d = some d1 ∧ WS (g d1 S) { D with nx := I us, ct := I us, bk := D.nx }) (h0 : ∀ d S, I [] d S → D.nx d S) : ∀ (us : List U) (d : En) (S : Sto), I us d S → WS (loopF gt g us d S) D
  | [], d, S, hi => ⟨h0 d S hi⟩
  | u :: us, d, S, hi => by
    obtain ⟨d1, e, hw⟩ := h u us d S hi
    unfold loopF
    rw [e]
    show WS (match g d1 S with
      | .ok (.nx d2) S1 => loopF gt g us d2 S1
      | .ok (.ct d2) S1 => loopF gt g us d2 S1
      | .ok (.bk d2) S1 => .ok (.nx d2) S1
      | r => r) D
    cases hg : g d1 S with
    | ok fl S1 =>
      rw [hg] at hw
      cases fl with
      | nx d2 => exact w_loop I h h0 us d2 S1 hw.out
      | ct d2 => exact w_loop I h h0 us d2 S1 hw.out
      | bk d2 => exact ⟨hw.out⟩
      | rt u => exact ⟨hw.out⟩
      | ex x d2 => exact ⟨hw.out⟩
    | exc x S => rw [hg] at hw; exact hw.out.elim
    | bad => rw [hg] at hw; exact hw.out.elim
theorem w_for {fi : FA} {gt : U → En → Option En} {g : FS} (h : Y (fi d S) fun us S1 => WS (loopF gt g us d S1) D) : WS (fFor fi gt g d S) D := ws_toS h
theorem w_while {t : FT} {g : FS} {D : EU} (I : Nat → En → Sto → Prop)
    (h : ∀ m d S, I m d S → Y (t d S) fun b S1 => if b = true then WS (g d S1) { D with nx := fun d2 S2 => ∃ m', m' < m ∧ I m' d2 S2, ct := fun d2 S2 => ∃ m', m' < m ∧ I m' d2 S2, bk := D.nx } else D.nx d S1) :
    ∀ (n m : Nat) (d : En) (S : Sto), m < n → I m d S → WS (whileF t g n d S) D
  | 0, m, d, S, hl, _ => absurd hl (Nat.not_lt_zero _)
  | n + 1, m, d, S, hl, hi => by
    unfold whileF
    refine ws_toS ((h m d S hi).mono fun b S1 h1 => ?_)
    cases b with
    | false => exact ⟨h1⟩
    | true =>
      show WS (match g d S1 with
        | .ok (.nx d2) S2 => whileF t g n d2 S2
        | .ok (.ct d2) S2 => whileF t g n d2 S2
        | .ok (.bk d2) S2 => .ok (.nx d2) S2
        | r => r) D
      have h1 : WS (g d S1) { D with nx := fun d2 S2 => ∃ m', m' < m ∧ I m' d2 S2, ct := fun d2 S2 => ∃ m', m' < m ∧ I m' d2 S2, bk := D.nx } := h1
      cases hg : g d S1 with
      | ok fl S2 =>
        rw [hg] at h1
        cases fl with
        | nx d2 => obtain ⟨m', hm, h2⟩ := h1.out; exact w_while I h n m' d2 S2 (by omega) h2
        | ct d2 => obtain ⟨m', hm, h2⟩ := h1.out; exact w_while I h n m' d2 S2 (by omega) h2
        | bk d2 => exact ⟨h1.out⟩
        | rt u => exact ⟨h1.out⟩
        | ex x d2 => exact ⟨h1.out⟩
      | exc x S => rw [hg] at h1; exact h1.out.elim
      | bad => rw [hg] at h1; exact h1.out.elim
theorem y_comp {gt : U → En → Option En} {t : FT} {f : FE} {d : En} {Q : List U → Sto → Prop} (I : List U → List U → Sto → Prop)
    (h : ∀ u us acc S, I (u :: us) acc S → acc.length < sizeLine ∧ ∃ d1, gt u d = some d1 ∧ Y (t d1 S) fun b S1 => if b = true then Y (f d1 S1) fun y S2 => I us (acc ++ [y]) S2 else I us acc S1) (h0 : ∀ acc S, I [] acc S → Q acc S) :
    ∀ (us acc : List U) (S : Sto), I us acc S → Y (compF gt t f d us acc S) Q
  | [], acc, S, hi => ⟨h0 acc S hi⟩
  | u :: us, acc, S, hi => by
    obtain ⟨hl, d1, e, hy⟩ := h u us acc S hi
    unfold compF
    rw [e]
    obtain ⟨b, S1, e1, hy⟩ := hy.ok
    dsimp only
    rw [e1]
    cases b with
    | true =>
      obtain ⟨y, S2, e2, hy⟩ := Y.ok hy
      dsimp only
      rw [e2]
      exact y_guard (decide_eq_true hl) (y_comp I h h0 us _ S2 hy)
    | false => exact y_comp I h h0 us acc S1 hy
theorem y_aComp {fi : FA} {gt : U → En → Option En} {t : FT} {f : FE} {vs : List Nat} {Q : List U → Sto → Prop} (h : Y (fi d S) fun us S1 => Y (compF gt t f (wipeE d vs) us [] S1) Q) : Y (aComp fi gt t f vs d S) Q := y_bind h
theorem y_run {body : FS} {d : En} {S : Sto} {Q : U → Sto → Prop} (h : WS (body d S) { nx := fun _ S1 => Q .non S1, rt := Q }) : Y (runB body d S) Q := by
  unfold runB
  cases e : body d S with
  | ok fl S1 =>
    rw [e] at h
    cases fl with
    | nx d => exact ⟨h.out⟩
    | rt u => exact ⟨h.out⟩
    | bk d => exact h.out.elim
    | ct d => exact h.out.elim
    | ex x d => exact h.out.elim
  | exc x S => rw [e] at h; exact h.out.elim
  | bad => rw [e] at h; exact h.out.elim
theorem ite_b {b : Bool} {A B : Prop} (h1 : b = true → A) (h2 : b = false → B) : if b = true then A else B := by
  cases b with
  | true => exact h1 rfl
  | false => exact h2 rfl
end
theorem yY {α : Type} {r : R α} {Q : α → Sto → Prop} (h : Y r Q) : Y r Q := h
theorem wW {r : R Fl} {D : EU} (h : WS r D) : WS r D := h
end DL
namespace DL
open PySem PySem.Spec L2
def tapeO (cs : List Int) (sp lf : Int) : Ob := .dic [.inr "cells", .inr "spot", .inr "left"] [.lst (cs.map .int), .int sp, .int lf]
theorem ix_of {n : Nat} {S : Sto} {ks : List Key} {us : List U} {k : Str} {u : U} (h : S[n]? = some (.dic ks us)) (e : valU ks us (.inr k) = some u) : ixB (.loc n) (.str k) S = some u := by
  unfold ixB DL.listOf listM dictOf keyU
  simp only [h]
  exact e
theorem ix_left {n : Nat} {S : Sto} {cs : List Int} {sp lf : Int} (h : S[n]? = some (tapeO cs sp lf)) : ixB (.loc n) (.str "left") S = some (.int lf) := ix_of h rfl
theorem ix_spot {n : Nat} {S : Sto} {cs : List Int} {sp lf : Int} (h : S[n]? = some (tapeO cs sp lf)) : ixB (.loc n) (.str "spot") S = some (.int sp) := ix_of h rfl
theorem ix_cells {n : Nat} {S : Sto} {cs : List Int} {sp lf : Int} (h : S[n]? = some (tapeO cs sp lf)) : ixB (.loc n) (.str "cells") S = some (.lst (cs.map .int)) := ix_of h rfl
theorem st_of {n : Nat} {S : Sto} {ks : List Key} {us : List U} {k : Str} {v : U} {p : List Key × List U} (h : S[n]? = some (.dic ks us)) (hl : ks.length < sizeLine) (e : putU ks us (.inr k) v = p) : stU (.loc n) (.str k) v S = some (S.set n (.dic p.1 p.2)) := by
  unfold stU keyU
  simp only [h, e, if_pos hl]
theorem st_left {n : Nat} {S : Sto} {cs : List Int} {sp lf lf' : Int} (h : S[n]? = some (tapeO cs sp lf)) : stU (.loc n) (.str "left") (.int lf') S = some (S.set n (tapeO cs sp lf')) := st_of h (by decide) rfl
theorem st_spot {n : Nat} {S : Sto} {cs : List Int} {sp lf sp' : Int} (h : S[n]? = some (tapeO cs sp lf)) : stU (.loc n) (.str "spot") (.int sp') S = some (S.set n (tapeO cs sp' lf)) := st_of h (by decide) rfl
theorem y_ix {x y u : U} {S : Sto} {Q : U → Sto → Prop} (e : ixB x y S = some u) (h : Q u S) : Y (ixU x y S) Q := y_oU e h
def Tape (n : Nat) (b : Int) (S : Sto) : Prop := ∃ cs sp lf, S[n]? = some (tapeO cs sp lf) ∧ cs.length ≤ 63 ∧ 0 ≤ sp ∧ sp ≤ b ∧ 0 ≤ lf
def Fr (ms : List Nat) (S S' : Sto) : Prop := S.length ≤ S'.length ∧ ∀ m, m < S.length → m ∉ ms → S'[m]? = S[m]?
theorem Fr.refl (ms : List Nat) (S : Sto) : Fr ms S S := ⟨Nat.le_refl _, fun _ _ _ => rfl⟩
theorem Fr.trans {ms : List Nat} {S S1 S2 : Sto} (a : Fr ms S S1) (b : Fr ms S1 S2) : Fr ms S S2 := ⟨Nat.le_trans a.1 b.1, fun m h n => (b.2 m (Nat.lt_of_lt_of_le h a.1) n).trans (a.2 m h n)⟩
theorem Fr.more {ms ns : List Nat} {S S' : Sto} (a : Fr ms S S') (h : ∀ m ∈ ms, m ∈ ns) : Fr ns S S' := ⟨a.1, fun m hm hn => a.2 m hm fun q => hn (h m q)⟩
theorem Fr.set {n : Nat} {S : Sto} {o : Ob} {ms : List Nat} (h : n ∈ ms) : Fr ms S (S.set n o) := ⟨by simp, fun m _ hm => List.getElem?_set_ne fun e => hm (by rw [← e]; exact h)⟩
theorem Fr.push {S : Sto} {o : Ob} {ms : List Nat} : Fr ms S (S ++ [o]) := ⟨by simp, fun m hm _ => List.getElem?_append_left hm⟩
theorem Fr.get {ms : List Nat} {S S' : Sto} {m : Nat} {o : Ob} (a : Fr ms S S') (h : S[m]? = some o) (hm : m ∉ ms) : S'[m]? = some o := (a.2 m (List.getElem?_eq_some_iff.mp h).1 hm).trans h
theorem Tape.lt {n : Nat} {b : Int} {S : Sto} (t : Tape n b S) : n < S.length := by
  obtain ⟨_, _, _, h, _⟩ := t
  exact (List.getElem?_eq_some_iff.mp h).1
theorem Tape.mono {n : Nat} {b b' : Int} {S : Sto} (t : Tape n b S) (h : b ≤ b') : Tape n b' S := by
  obtain ⟨cs, sp, lf, h1, h2, h3, h4, h5⟩ := t
  exact ⟨cs, sp, lf, h1, h2, h3, by omega, h5⟩
theorem Tape.fr {n : Nat} {b : Int} {S S' : Sto} {ms : List Nat} (t : Tape n b S) (f : Fr ms S S') (h : n ∉ ms) : Tape n b S' := by
  obtain ⟨cs, sp, lf, h1, h2⟩ := t
  exact ⟨cs, sp, lf, f.get h1 h, h2⟩
def Drawn1 (n : Nat) (b many : Int) (S : Sto) (u : U) (S' : Sto) : Prop := ∃ r, u = .int r ∧ 0 ≤ r ∧ r < many ∧ Tape n b S' ∧ S'.length = S.length ∧ Fr [n] S S'
theorem mul_ok {i j : Int} {a b : Nat} (ha : i.natAbs < 2 ^ a) (hb : j.natAbs < 2 ^ b) (h : a + b ≤ 134217728) : mulOk i j = true := decide_eq_true (mulx_ok ha hb h)
theorem natAbs_lt {i : Int} {a : Nat} (h0 : 0 ≤ i) (h : i < 2 ^ a) : i.natAbs < 2 ^ a := by
  have : (i.natAbs : Int) < ((2 ^ a : Nat) : Int) := by
    rw [Int.natAbs_of_nonneg h0]
    have e : ((2 ^ a : Nat) : Int) = 2 ^ a := by simp
    rw [e]; exact h
  exact Int.ofNat_lt.mp this
end DL
namespace DL
theorem log_lt {m : Int} (h0 : 0 < m) (h1 : m < 2 ^ 200) : m.natAbs.log2 < 9000 := by
  have : m.natAbs < 2 ^ 200 := natAbs_lt (by omega) h1
  have := (Nat.log2_lt (by omega : m.natAbs ≠ 0)).mpr this
  omega
end DL
namespace DL
theorem y_orC {fa fb : FE} {d : En} {S : Sto} {Q : U → Sto → Prop} {cs : List Int} (hl : cs.length ≤ 63) (e : fa d S = .ok (.lst (cs.map .int)) S) (e2 : fb d S = .ok (.lst [.int 0]) S) (h : ∀ ds : List Int, 0 < ds.length → ds.length ≤ 63 → Q (.lst (ds.map .int)) S) : Y (fOrV fa fb d S) Q := by
  refine y_orV ?_
  rw [e]
  refine y_ok ?_
  cases cs with
  | nil => exact ⟨(show Y (fb d S) Q by rw [e2]; exact ⟨h [0] (by decide) (by decide)⟩)⟩
  | cons c cs => exact ⟨h (c :: cs) (by simp) hl⟩
theorem y_lenL {us : List U} {S : Sto} {Q : U → Sto → Prop} (h : Q (.int us.length) S) : Y (lenC [.lst us] S) Q := ⟨h⟩
theorem y_ixI {ds : List Int} {i : Int} {S : Sto} {Q : U → Sto → Prop} (h0 : 0 ≤ i) (h1 : i < ds.length) (h : ∀ c, Q (.int c) S) : Y (ixU (.lst (ds.map .int)) (.int i) S) Q := by
  refine y_ixL h0 (by rw [List.length_map]; exact h1) fun u hu _ => ?_
  obtain ⟨c, _, rfl⟩ := List.mem_map.mp hu
  exact h c
end DL
namespace DL
theorem w_ifP {t : FT} {g h : FS} {d : En} {S : Sto} {D : EU} (P : Bool → Prop) (h0 : Y (t d S) fun b S1 => S1 = S ∧ P b) (h1 : P true → WS (g d S) D) (h2 : P false → WS (h d S) D) : WS (fIfS t g h d S) D :=
  w_if (h0.mono fun b S1 ⟨e, p⟩ => by
    subst e
    cases b with
    | true => exact h1 p
    | false => exact h2 p)
end DL
namespace DL
open PySem PySem.Spec L2 TL
theorem len_cs (z : Str) : z.length = (tl z).length := by show z.cps.size = _; simp
theorem cs_take (z : Str) (k : Nat) : tl (cutS z none (some (k : Int))) = (tl z).take k := by
  show ((z.cps.toList.drop (HT.sIx z.length 0 none)).take (HT.sIx z.length z.length (some (k : Int)) - HT.sIx z.length 0 none)) = _
  rw [HT.sIx_none, HT.sIx_nat, List.drop_zero, Nat.sub_zero, len_cs]
  show List.take (min k (tl z).length) (tl z) = _
  rw [List.take_eq_take_iff]
  omega
theorem cs_join (ys : List Str) : tl (Txt.join "" ys) = (ys.map tl).flatten := by
  rw [join_eq, tl_join]
  show joinL [] _ = _
  generalize ys.map tl = zs
  induction zs with
  | nil => rfl
  | cons p r ih =>
    cases r with
    | nil => simp [joinL]
    | cons q r => show p ++ ([] ++ joinL [] (q :: r)) = _; rw [ih]; simp
def Low (z : Str) : Prop := ∀ c ∈ tl z, 97 ≤ c ∧ c ≤ 122
theorem Low.app {x y : Str} (a : Low x) (b : Low y) : Low (x ++ y) := fun c h => by
  rw [tl_append] at h
  exact (List.mem_append.mp h).elim (a c) (b c)
theorem Low.take {x : Str} (a : Low x) (k : Nat) : Low (cutS x none (some (k : Int))) := fun c h => by
  rw [cs_take] at h
  exact a c (List.mem_of_mem_take h)
theorem Low.one {x : Str} {c : Nat} (a : Low x) (h : c ∈ x.cps.toList) : Low ⟨#[c]⟩ := fun c' h' => by
  have : c' = c := by simpa using h'
  subst this
  exact a _ h
theorem Low.join {ys : List Str} (h : ∀ y ∈ ys, Low y) : Low (Txt.join "" ys) := fun c hc => by
  rw [cs_join] at hc
  obtain ⟨l, hl, hc⟩ := List.mem_flatten.mp hc
  obtain ⟨y, hy, rfl⟩ := List.mem_map.mp hl
  exact h y hy c hc
theorem Low.ok {x : Str} (a : Low x) : PyData.strOk x = true := by
  unfold PyData.strOk
  rw [Array.all_eq_true']
  intro c hc
  have := a c (by simpa using hc)
  exact decide_eq_true (by omega)
theorem len_app (x y : Str) : (x ++ y).length = x.length + y.length := by rw [len_cs, len_cs, len_cs, tl_append, List.length_append]
theorem len_take (x : Str) (k : Nat) : (cutS x none (some (k : Int))).length = min k x.length := by rw [len_cs, len_cs, cs_take, List.length_take]
theorem len_join {ys : List Str} (h : ∀ y ∈ ys, y.length = 1) : (Txt.join "" ys).length = ys.length := by
  rw [len_cs, cs_join, List.length_flatten, List.map_map]
  induction ys with
  | nil => rfl
  | cons y r ih =>
    rw [List.map_cons, List.sum_cons, ih fun z hz => h z (List.mem_cons_of_mem _ hz)]
    show (tl y).length + _ = _
    rw [← len_cs, h y List.mem_cons_self, List.length_cons]
    omega
def Pl (c : Nat) : Nat → U → Prop
  | _, .non => True
  | _, .bl _ => True
  | _, .int _ => True
  | _, .str z => PyData.strOk z = true ∧ z.length ≤ sizeLine
  | n + 1, .tup us => us.length ≤ c ∧ ∀ u ∈ us, Pl c n u
  | n + 1, .lst us => us.length ≤ c ∧ ∀ u ∈ us, Pl c n u
  | _, _ => False
theorem Pl.ups {c c' n m : Nat} (hc : c ≤ c') (h : n ≤ m) : ∀ {u : U}, Pl c n u → Pl c' m u := by
  induction n generalizing m with
  | zero =>
    intro u p
    cases u <;> first | trivial | exact p | exact p.elim | skip
    all_goals (unfold Pl at p ⊢; first | exact p | exact p.elim)
  | succ n ih =>
    intro u p
    obtain ⟨m, rfl⟩ : ∃ k, m = k + 1 := ⟨m - 1, by omega⟩
    cases u with
    | tup us => exact ⟨Nat.le_trans p.1 hc, fun u hu => ih (by omega) (p.2 u hu)⟩
    | lst us => exact ⟨Nat.le_trans p.1 hc, fun u hu => ih (by omega) (p.2 u hu)⟩
    | non => trivial
    | bl b => trivial
    | int i => trivial
    | str z => exact p
    | frz us => exact p.elim
    | dic a b => exact p.elim
    | loc n => exact p.elim
    | ty n => exact p.elim
    | exc a b c => exact p.elim
    | cl c => exact p.elim
theorem Pl.up {c n m : Nat} (h : n ≤ m) {u : U} (p : Pl c n u) : Pl c m u := Pl.ups (Nat.le_refl _) h p
theorem Pl.strs {c n : Nat} {z : Str} (h : PyData.strOk z = true ∧ z.length ≤ sizeLine) : Pl c n (.str z) := by cases n <;> (unfold Pl; exact h)
theorem Pl.dat : ∀ {c n : Nat} {u : U}, Pl c n u → ∃ d, toD u = some d ∧ d.canLay0 = true ∧ d.depth ≤ n := by
  intro c n
  induction n with
  | zero =>
    intro u p
    cases u with
    | non => exact ⟨_, rfl, rfl, Nat.le_refl _⟩
    | bl b => exact ⟨_, rfl, rfl, Nat.le_refl _⟩
    | int i => exact ⟨_, rfl, rfl, Nat.le_refl _⟩
    | str z => exact ⟨.str z, rfl, by unfold Pl at p; exact p.1, Nat.le_refl _⟩
    | _ => unfold Pl at p; exact p.elim
  | succ n ih =>
    have all : ∀ {us : List U}, (∀ u ∈ us, Pl c n u) → ∃ ds, toDs us = some ds ∧ PyData.canLayAll0 ds = true ∧ PyData.depthAll ds ≤ n := by
      intro us h
      induction us with
      | nil => exact ⟨[], rfl, rfl, Nat.zero_le _⟩
      | cons u r ih2 =>
        obtain ⟨d, e, a, b⟩ := ih (h u List.mem_cons_self)
        obtain ⟨ds, es, as, bs⟩ := ih2 fun v hv => h v (List.mem_cons_of_mem _ hv)
        refine ⟨d :: ds, by unfold toDs; rw [e, es], ?_, ?_⟩
        · unfold PyData.canLayAll0; rw [a, as]; rfl
        · unfold PyData.depthAll; omega
    intro u p
    cases u with
    | non => exact ⟨_, rfl, rfl, Nat.zero_le _⟩
    | bl b => exact ⟨_, rfl, rfl, Nat.zero_le _⟩
    | int i => exact ⟨_, rfl, rfl, Nat.zero_le _⟩
    | str z => exact ⟨.str z, rfl, p.1, Nat.zero_le _⟩
    | tup us =>
      obtain ⟨ds, e, a, b⟩ := all p.2
      exact ⟨.tuple ds, by unfold toD; rw [e]; rfl, by unfold PyData.canLay0; exact a, by unfold PyData.depth; omega⟩
    | lst us =>
      obtain ⟨ds, e, a, b⟩ := all p.2
      exact ⟨.list ds, by unfold toD; rw [e]; rfl, by unfold PyData.canLay0; exact a, by unfold PyData.depth; omega⟩
    | _ => unfold Pl at p; exact p.elim
theorem toDS_toD {u : U} {S : Sto} {d : PyData} (h : toD u = some d) : toDS u S = some d := by
  cases u <;> first | exact h | (unfold toD at h; cases h)
theorem Pl.shaped {c n : Nat} {u : U} (p : Pl c n u) (hn : n ≤ 64) (S : Sto) : ∃ d, toDS u S = some d ∧ SeqAt.shaped d = true := by
  obtain ⟨d, e, a, b⟩ := p.dat
  refine ⟨d, toDS_toD e, ?_⟩
  unfold SeqAt.shaped
  rw [a, decide_eq_true (by omega : d.depth ≤ 64)]
  rfl
end DL
namespace DL
open PySem PySem.Spec L2 TL
theorem sizeL : sizeLine = 16777216 := rfl
theorem rng_len (lo c : Int) (n : Nat) : (rngU lo c n).length = n := by unfold rngU; simp
theorem strsOf_map : ∀ ys : List Str, strsOf (ys.map .str) = some ys
  | [] => rfl
  | y :: ys => by
    show (strsOf (ys.map .str)).map (y :: ·) = _
    rw [strsOf_map ys]; rfl
theorem y_join1 {ys : List Str} {S : Sto} {Q : U → Sto → Prop} (h1 : ∀ y ∈ ys, y.length = 1) (h2 : ys.length ≤ 10000) (h : Q (.str (Txt.join "" ys)) S) : Y (joinM (.str "") [.lst (ys.map .str)] S) Q := by
  show Y (match strsOf (ys.map .str) with
      | some ys => guard (decide ((ys.map (·.length)).sum + ys.length * Str.length "" ≤ 16777216)) (.ok (.str (Txt.join "" ys)) S)
      | none => .bad) Q
  rw [strsOf_map]
  refine y_guard (decide_eq_true ?_) ⟨h⟩
  have e : (ys.map (·.length)).sum = ys.length := by
    clear h2 h
    induction ys with
    | nil => rfl
    | cons y r ih => rw [List.map_cons, List.sum_cons, ih fun z hz => h1 z (List.mem_cons_of_mem _ hz), h1 y List.mem_cons_self, List.length_cons]; omega
  rw [e, show Str.length "" = 0 from rfl]
  omega
theorem any_str (ws : List Str) (w : Str) : ((ws.map U.str).any fun z => eqF z (.str w)) = decide (w ∈ ws) := by
  induction ws with
  | nil => rfl
  | cons y r ih =>
    rw [List.map_cons, List.any_cons, ih]
    show ((y == w) || _) = _
    rw [str_beq, ← Bool.decide_or]
    by_cases q : y = w
    · subst q; simp
    · have q' : ¬ w = y := fun e => q e.symm
      simp [q, q']
theorem all_flat (ws : List Str) : (ws.map U.str).all flatU = true := by
  induction ws with
  | nil => rfl
  | cons y r ih => rw [List.map_cons, List.all_cons, ih]; rfl
theorem y_inL {f : Nat} {ws : List Str} {w : Str} {S : Sto} {Q : U → Sto → Prop} (hf : S[f]? = some (.lst (ws.map .str))) (h : Q (.bl (decide (w ∈ ws))) S) : Y (inU (.str w) (.loc f) S) Q := by
  have e : inB (.str w) (.loc f) S = some (decide (w ∈ ws)) := by
    unfold inB dictOf flatL DL.listOf listM
    simp only [hf]
    rw [all_flat, any_str]
    rfl
  unfold inU
  rw [e]
  exact ⟨h⟩
theorem y_inT {us : List U} (ws : List Str) {w : Str} {S : Sto} {Q : U → Sto → Prop} (e : us = ws.map .str) (h : Q (.bl (decide (w ∈ ws))) S) : Y (inU (.str w) (.tup us) S) Q := by
  subst e
  have e : inB (.str w) (.tup (ws.map .str)) S = some (decide (w ∈ ws)) := by
    unfold inB
    dsimp only
    rw [all_flat, any_str]
    rfl
  unfold inU
  rw [e]
  exact ⟨h⟩
theorem Fr.setNew {ms : List Nat} {S S1 : Sto} {f : Nat} {o : Ob} (a : Fr ms S S1) (h : S.length ≤ f) : Fr ms S (S1.set f o) :=
  ⟨by rw [List.length_set]; exact a.1, fun m hm hn => by rw [List.getElem?_set_ne (by omega)]; exact a.2 m hm hn⟩
theorem y_app {f : Nat} {us : List U} {u : U} {S : Sto} {Q : U → Sto → Prop} (hf : S[f]? = some (.lst us)) (hl : us.length < sizeLine) (h : Q .non (S.set f (.lst (us ++ [u])))) : Y (appM (.loc f) [u] S) Q := by
  unfold appM
  simp only [hf]
  exact y_guard (decide_eq_true hl) ⟨h⟩
theorem ty_list {f : Nat} {us : List U} {S : Sto} (hf : S[f]? = some (.lst us)) : tyU "list" (.loc f) S = true := by
  unfold tyU
  simp only [hf]
  rfl
theorem y_slS {z : Str} {lo hi : Option Int} {S : Sto} {Q : U → Sto → Prop} (hz : z.length ≤ sizeLine) (h : Q (.str (cutS z lo hi)) S) : Y (oU (slB (.str z) lo hi S) S) Q := y_oU (show (if z.length ≤ sizeLine then some (U.str (cutS z lo hi)) else none) = _ by rw [if_pos hz]) h
theorem sto_snoc {S : Sto} {o : Ob} : (S ++ [o])[S.length]? = some o := by simp
theorem len_ok {a : Nat} (h : Nat.ble a sizeLine = true) : a ≤ sizeLine := Nat.le_of_ble_eq_true h
theorem cut_pre (us : List U) (j : Nat) : cutU us none (some (j : Int)) = us.take j := by
  unfold cutU
  rw [HT.sIx_none, HT.sIx_nat, List.drop_zero, Nat.sub_zero]
  rw [List.take_eq_take_iff]; omega
theorem cut_suf (us : List U) (j : Nat) : cutU us (some (j : Int)) none = us.drop j := by
  unfold cutU
  rw [HT.sIx_none, HT.sIx_nat]
  have : us.drop (min j us.length) = us.drop j := by
    by_cases h : j ≤ us.length
    · rw [Nat.min_eq_left h]
    · rw [Nat.min_eq_right (by omega), List.drop_length, List.drop_eq_nil_of_le (by omega)]
  rw [this, List.take_of_length_le (by rw [List.length_drop]; omega)]
theorem y_slT {us : List U} {lo hi : Option Int} {S : Sto} {Q : U → Sto → Prop} (h : Q (.tup (cutU us lo hi)) S) : Y (oU (slB (.tup us) lo hi S) S) Q := y_oU (o := slB (.tup us) lo hi S) rfl h
theorem y_slL {us : List U} {lo hi : Option Int} {S : Sto} {Q : U → Sto → Prop} (h : Q (.lst (cutU us lo hi)) S) : Y (oU (slB (.lst us) lo hi S) S) Q := y_oU (o := slB (.lst us) lo hi S) rfl h
theorem Pl.tup {c n : Nat} {us : List U} (p : Pl c n (.tup us)) : us.length ≤ c ∧ ∃ m, n = m + 1 ∧ ∀ u ∈ us, Pl c m u := by
  cases n with
  | zero => unfold Pl at p; exact p.elim
  | succ n => exact ⟨p.1, n, rfl, p.2⟩
end DL
namespace DL
open PySem PySem.Spec L2 TL
inductive Op where
  | and | or | gives | same
def Op.s : Op → Str
  | .and => "and"
  | .or => "or"
  | .gives => "if"
  | .same => "same"
inductive Say where
  | yes | no
  | name (w : Str)
  | neg (a : Say)
  | bin (o : Op) (a b : Say)
namespace Say
def u : Say → U
  | yes => .tup [.str "yes"]
  | no => .tup [.str "no"]
  | name w => .tup [.str "name", .str w]
  | neg a => .tup [.str "not", a.u]
  | bin o a b => .tup [.str o.s, a.u, b.u]
def deep : Say → Nat
  | neg a => a.deep + 1
  | bin _ a b => max a.deep b.deep + 1
  | _ => 1
def parts : Say → Nat
  | neg a => a.parts + 1
  | bin _ a b => a.parts + b.parts + 1
  | _ => 1
def On (P : Str → Prop) : Say → Prop
  | name w => P w
  | neg a => a.On P
  | bin _ a b => a.On P ∧ b.On P
  | _ => True
theorem On.mono {P Q : Str → Prop} (h : ∀ w, P w → Q w) : ∀ {x : Say}, x.On P → x.On Q
  | yes, _ => trivial
  | no, _ => trivial
  | name w, p => h w p
  | neg a, p => On.mono (x := a) h p
  | bin _ a b, p => ⟨On.mono (x := a) h p.1, On.mono (x := b) h p.2⟩
theorem deep_pos (x : Say) : 1 ≤ x.deep := by cases x <;> simp [deep]
end Say
theorem op_ok (o : Op) : PyData.strOk o.s = true ∧ o.s.length ≤ sizeLine := by cases o <;> decide +kernel
theorem Say.pl {x : Say} (h : x.On fun w => PyData.strOk w = true ∧ w.length ≤ sizeLine) : Pl 3 x.deep x.u := by
  have s1 : PyData.strOk "yes" = true ∧ Str.length "yes" ≤ sizeLine := by decide +kernel
  have s2 : PyData.strOk "no" = true ∧ Str.length "no" ≤ sizeLine := by decide +kernel
  have s3 : PyData.strOk "name" = true ∧ Str.length "name" ≤ sizeLine := by decide +kernel
  have s4 : PyData.strOk "not" = true ∧ Str.length "not" ≤ sizeLine := by decide +kernel
  have str : ∀ {n : Nat} {z : Str}, (PyData.strOk z = true ∧ z.length ≤ sizeLine) → Pl 3 n (.str z) := fun {n z} h => Pl.strs h
  induction x with
  | yes => exact ⟨(by decide : 1 ≤ 3), fun u hu => by rw [List.mem_singleton.mp hu]; exact str s1⟩
  | no => exact ⟨(by decide : 1 ≤ 3), fun u hu => by rw [List.mem_singleton.mp hu]; exact str s2⟩
  | name w =>
    refine ⟨(by decide : 2 ≤ 3), fun u hu => ?_⟩
    simp only [List.mem_cons, List.mem_nil_iff, or_false] at hu
    rcases hu with rfl | rfl
    · exact str s3
    · exact str h
  | neg a ih =>
    refine ⟨(by decide : 2 ≤ 3), fun u hu => ?_⟩
    simp only [List.mem_cons, List.mem_nil_iff, or_false] at hu
    rcases hu with rfl | rfl
    · exact str s4
    · exact ih h
  | bin o a b iha ihb =>
    refine ⟨(by decide : 3 ≤ 3), fun u hu => ?_⟩
    simp only [List.mem_cons, List.mem_nil_iff, or_false] at hu
    rcases hu with rfl | rfl | rfl
    · exact str (op_ok o)
    · exact (iha h.1).up (Nat.le_max_left _ _)
    · exact (ihb h.2).up (Nat.le_max_right _ _)
def cst : Nat → Int
  | 0 => 90
  | d + 1 => 90 + 2 * cst d
theorem cst_pos : ∀ d, 90 ≤ cst d
  | 0 => Int.le_refl _
  | d + 1 => by have := cst_pos d; unfold cst; omega
theorem y_min {i j : Int} {S : Sto} {Q : U → Sto → Prop} (h : Q (.int (if j < i then j else i)) S) : Y (minC [.int i, .int j] S) Q := ⟨h⟩
theorem y_intB {b : Bool} {S : Sto} {Q : U → Sto → Prop} (h : Q (.int (if b then 1 else 0)) S) : Y (intC [.bl b] S) Q := ⟨h⟩
theorem ix_first {f : Nat} {S : Sto} {u : U} {us : List U} (h : S[f]? = some (.lst (u :: us))) : ixB (.loc f) (.int 0) S = some u := by
  unfold ixB DL.listOf listM
  simp only [h]
  exact atI_nat (j := 0) rfl
theorem st_first {f : Nat} {S : Sto} {u v : U} {us : List U} (h : S[f]? = some (.lst (u :: us))) : stU (.loc f) (.int 0) v S = some (S.set f (.lst (v :: us))) := by
  unfold stU
  simp only [h]
  rw [show ixN (u :: us).length 0 = some 0 from by unfold ixN; rw [if_pos (by decide), if_pos (by rw [List.length_cons]; omega)]; rfl]
  rfl
theorem y_lenS {ws : List Str} {S : Sto} {Q : U → Sto → Prop} (h : Q (.int (ws.length : Nat)) S) : Y (lenC [.lst (ws.map .str)] S) Q := y_lenL (by rw [List.length_map]; exact h)
theorem y_ixW {ws : List Str} {i : Int} {S : Sto} {Q : U → Sto → Prop} (h0 : 0 ≤ i) (h1 : i < (ws.length : Nat)) (h : ∀ w, w ∈ ws → ws[i.toNat]? = some w → Q (.str w) S) : Y (ixU (.lst (ws.map .str)) (.int i) S) Q := by
  refine y_ixL h0 (by rw [List.length_map]; exact h1) fun u hu e => ?_
  rw [List.getElem?_map] at e
  obtain ⟨w, hw, rfl⟩ := Option.map_eq_some_iff.mp e
  exact h w (List.mem_of_getElem? hw) hw
end DL
namespace DL
open PySem PySem.Spec L2 TL
end DL
namespace DL
open PySem PySem.Spec L2 TL
theorem boolsOf_map {α : Type} (g : α → Bool) : ∀ us : List α, boolsOf (us.map fun u => U.bl (g u)) = some (us.map g)
  | [] => rfl
  | u :: us => by
    show (boolsOf (us.map fun u => U.bl (g u))).map (g u :: ·) = _
    rw [boolsOf_map g us]; rfl
end DL
namespace DL
open PySem PySem.Spec L2
section
variable {d : En} {S : Sto} {Q : U → Sto → Prop} {QA : List U → Sto → Prop} {fa fb fe : FE} {ga : FA} {D : EU}
theorem y_mkx {c f : Str} (h : Y (ga d S) fun us S1 => ∃ u, us = [u] ∧ Q (.exc c f u) S1) : Y (fMkx c f ga d S) Q := y_bind (h.mono fun us S1 ⟨u, e, h1⟩ => by subst e; exact ⟨h1⟩)
theorem y_mkx1 {c f : Str} (h : Y (fa d S) fun u S1 => Q (.exc c f u) S1) : Y (fMkx c f (aCons fa aNil) d S) Q := y_mkx (y_cons (h.mono fun u S1 h1 => y_nil ⟨u, rfl, h1⟩))
theorem y_aAdd (h : Y (fa d S) fun x S1 => Y (fb d S1) fun y S2 => ∃ a b, listM x S2 = some a ∧ listM y S2 = some b ∧ a.length + b.length ≤ sizeLine ∧ QA (a ++ b) S2) : Y (aAdd fa fb d S) QA := y_bind (h.mono fun x S1 h1 => y_bind (h1.mono fun y S2 ⟨a, b, e1, e2, hl, h2⟩ => by
  show Y (match listM x S2, listM y S2 with
    | some a, some b => guard (decide (a.length + b.length ≤ sizeLine)) (.ok (a ++ b) S2)
    | _, _ => .bad) QA
  rw [e1, e2]
  exact y_guard (decide_eq_true hl) ⟨h2⟩))
theorem y_fld {cs : List Str} {f : Str} (h : Y (fe d S) fun u S1 => ∃ c v, u = .exc c f v ∧ cs.contains c = true ∧ Q v S1) : Y (fFld cs f fe d S) Q := y_bind (h.mono fun u S1 ⟨c, v, e, hc, h1⟩ => by
  subst e
  show Y (if cs.contains c && decide (f = f) then .ok v S1 else .bad) Q
  rw [hc, decide_eq_true rfl]
  exact ⟨h1⟩)
theorem y_dlocG {g : FD} (h : Y (g d S) fun p S1 => ∀ n S', n = S1.length → S'[n]? = some (.dic p.1 p.2) → S'.length = S1.length + 1 → Fr [] S1 S' → Q (.loc n) S') : Y (fDloc g d S) Q := y_dloc (h.mono fun us S1 h1 => h1 _ _ rfl sto_snoc (by simp) Fr.push)
theorem w_raise {c f : Str} (h : Y (ga d S) fun us S1 => ∃ u, us = [u] ∧ D.ex ⟨c, f, u⟩ d S1) : WS (fRaise c f ga d S) D := ws_toS (h.mono fun us S1 ⟨u, e, h1⟩ => by subst e; exact ⟨h1⟩)
theorem WS.of {r : R Fl} {fl : Fl} (e : r = .ok fl S) (h : WS (.ok fl S) D) : WS r D := by rw [e]; exact h
end
mutual
theorem eqv_refl : ∀ d : PyData, d.canLay0 = true → PyData.eqv d d = true
  | .none, _ => by unfold PyData.eqv; rfl
  | .bool b, _ => by unfold PyData.eqv; simp
  | .int i, _ => by unfold PyData.eqv; simp
  | .str s, _ => by unfold PyData.eqv; simp
  | .list xs, h => by unfold PyData.eqv; exact eqvAll_refl xs (by unfold PyData.canLay0 at h; exact h)
  | .tuple xs, h => by unfold PyData.eqv; exact eqvAll_refl xs (by unfold PyData.canLay0 at h; exact h)
  | .dict kvs, h => by unfold PyData.canLay0 at h; cases h
theorem eqvAll_refl : ∀ ds : List PyData, PyData.canLayAll0 ds = true → PyData.eqvAll ds ds = true
  | [], _ => by unfold PyData.eqvAll; rfl
  | d :: ds, h => by
    unfold PyData.canLayAll0 at h
    rw [Bool.and_eq_true] at h
    unfold PyData.eqvAll
    rw [eqv_refl d h.1, eqvAll_refl ds h.2]
    rfl
end
end DL
namespace DL
open PySem PySem.Spec L2 TL
def addS (zs : List Str) (k : Str) : List Str := if k ∈ zs then zs else zs ++ [k]
def dz (zs : List Str) : List Key := zs.map Sum.inr
theorem val_z (g : Str → U) (k : Str) : ∀ zs : List Str, valU (dz zs) (zs.map g) (.inr k) = if k ∈ zs then some (g k) else none
  | [] => rfl
  | z :: zs => by
    show (if (Sum.inr z : Key) = .inr k then some (g z) else valU (dz zs) (zs.map g) (.inr k)) = _
    rw [val_z g k zs]
    by_cases h : z = k
    · subst h
      rw [if_pos rfl, if_pos List.mem_cons_self]
    · rw [if_neg fun e => h (Sum.inr.inj e)]
      by_cases h2 : k ∈ zs
      · rw [if_pos h2, if_pos (List.mem_cons_of_mem _ h2)]
      · rw [if_neg h2, if_neg fun q => (List.mem_cons.mp q).elim (fun e => h e.symm) h2]
theorem hasK_z (k : Str) : ∀ zs : List Str, hasK (dz zs) (.inr k) = decide (k ∈ zs)
  | [] => rfl
  | z :: zs => by
    show (decide ((Sum.inr z : Key) = .inr k) || hasK (dz zs) (.inr k)) = _
    rw [hasK_z k zs]
    by_cases h : z = k
    · subst h
      rw [decide_eq_true rfl, decide_eq_true List.mem_cons_self]
      rfl
    · rw [decide_eq_false fun e => h (Sum.inr.inj e), Bool.false_or]
      exact decide_eq_decide.mpr ⟨List.mem_cons_of_mem _, fun q => (List.mem_cons.mp q).elim (fun e => absurd e.symm h) id⟩
theorem repl_z (g : Str → U) (k : Str) : ∀ zs : List Str, replU (dz zs) (zs.map g) (.inr k) (g k) = zs.map g
  | [] => rfl
  | z :: zs => by
    show (if (Sum.inr z : Key) = .inr k then g k else g z) :: replU (dz zs) (zs.map g) (.inr k) (g k) = _
    rw [repl_z g k zs, List.map_cons]
    by_cases h : z = k
    · subst h; rw [if_pos rfl]
    · rw [if_neg fun e => h (Sum.inr.inj e)]
theorem put_z (g : Str → U) (k : Str) (zs : List Str) : putU (dz zs) (zs.map g) (.inr k) (g k) = (dz (addS zs k), (addS zs k).map g) := by
  unfold putU addS
  rw [hasK_z]
  by_cases h : k ∈ zs
  · rw [decide_eq_true h, if_pos rfl, if_pos h, repl_z]
  · rw [decide_eq_false h, if_neg (by decide), if_neg h]
    unfold dz
    rw [List.map_append, List.map_append]
    rfl
theorem merge_z (g : Str → U) : ∀ (l zs : List Str), mergeU (dz zs, zs.map g) (l.map fun k => (.inr k, g k)) = (dz (l.foldl addS zs), (l.foldl addS zs).map g)
  | [], zs => rfl
  | k :: l, zs => by
    show mergeU (putU (dz zs) (zs.map g) (.inr k) (g k)) (l.map fun k => (.inr k, g k)) = _
    rw [put_z, merge_z g l]
    rfl
theorem addS_mem {zs : List Str} {k x : Str} : x ∈ addS zs k ↔ x ∈ zs ∨ x = k := by
  unfold addS
  by_cases h : k ∈ zs
  · rw [if_pos h]; exact ⟨.inl, fun q => q.elim id fun e => e ▸ h⟩
  · rw [if_neg h, List.mem_append, List.mem_singleton]
theorem addS_nodup {zs : List Str} {k : Str} (h : zs.Nodup) : (addS zs k).Nodup := by
  unfold addS
  by_cases q : k ∈ zs
  · rw [if_pos q]; exact h
  · rw [if_neg q, List.nodup_append]
    exact ⟨h, by simp, fun a ha b hb e => q (by rw [List.mem_singleton.mp hb] at e; rw [← e]; exact ha)⟩
theorem addS_len {zs : List Str} {k : Str} : (addS zs k).length ≤ zs.length + 1 := by
  unfold addS
  split
  · omega
  · rw [List.length_append, List.length_singleton]; exact Nat.le_refl _
theorem fold_mem {x : Str} : ∀ {l zs : List Str}, x ∈ l.foldl addS zs ↔ x ∈ zs ∨ x ∈ l
  | [], zs => by simp
  | k :: l, zs => by
    rw [List.foldl_cons, fold_mem, addS_mem, List.mem_cons]
    constructor
    · rintro ((h | h) | h)
      · exact .inl h
      · exact .inr (.inl h)
      · exact .inr (.inr h)
    · rintro (h | h | h)
      · exact .inl (.inl h)
      · exact .inl (.inr h)
      · exact .inr h
theorem fold_nodup : ∀ {l zs : List Str}, zs.Nodup → (l.foldl addS zs).Nodup
  | [], _, h => h
  | k :: l, zs, h => fold_nodup (l := l) (addS_nodup h)
theorem fold_len : ∀ {l zs : List Str}, (l.foldl addS zs).length ≤ zs.length + l.length
  | [], zs => Nat.le_refl _
  | k :: l, zs => by
    have h1 := fold_len (l := l) (zs := addS zs k)
    have h2 := addS_len (zs := zs) (k := k)
    rw [List.foldl_cons, List.length_cons]
    omega
theorem sort_nub {zs l : List Str} (h : zs.Nodup) (hm : ∀ x, x ∈ zs ↔ x ∈ l) : sortT zs = sortT (nubT l) := by
  refine pw_unique (((sortT_perm zs).trans ?_).trans (sortT_perm _).symm) (sortT_pw _) (sortT_pw _)
  rw [List.perm_ext_iff_of_nodup h (nubT_nodup l)]
  intro a
  rw [hm, nubT_mem]
theorem sort_len (l : List Str) : (sortT l).length = l.length := (sortT_perm l).length_eq
theorem sort_mem {l : List Str} {x : Str} : x ∈ sortT l ↔ x ∈ l := (sortT_perm l).mem_iff
namespace Say
def names : Say → List Str
  | name w => [w]
  | neg a => a.names
  | bin _ a b => a.names ++ b.names
  | _ => []
theorem names_len : ∀ x : Say, x.names.length ≤ x.parts
  | yes => Nat.zero_le _
  | no => Nat.zero_le _
  | name w => Nat.le_refl _
  | neg a => by have := names_len a; show a.names.length ≤ a.parts + 1; omega
  | bin _ a b => by have := names_len a; have := names_len b; show (a.names ++ b.names).length ≤ a.parts + b.parts + 1; rw [List.length_append]; omega
theorem on_names {P : Str → Prop} : ∀ {x : Say}, x.On P → ∀ w ∈ x.names, P w
  | yes, _, w, h => by cases h
  | no, _, w, h => by cases h
  | name z, p, w, h => by rw [List.mem_singleton.mp h]; exact p
  | neg a, p, w, h => on_names (x := a) p w h
  | bin _ a b, p, w, h => (List.mem_append.mp h).elim (on_names (x := a) p.1 w) (on_names (x := b) p.2 w)
end Say
def Op.ev : Op → Bool → Bool → Bool
  | .and, a, b => a && b
  | .or, a, b => a || b
  | .gives, a, b => !a || b
  | .same, a, b => a == b
def Say.ev (ρ : Str → Bool) : Say → Bool
  | .yes => true
  | .no => false
  | .name w => ρ w
  | .neg a => !a.ev ρ
  | .bin o a b => o.ev (a.ev ρ) (b.ev ρ)
section
variable {d : En} {S : Sto} {Q : U → Sto → Prop} {QA : List U → Sto → Prop} {fa fb fe : FE} {ga : FA} {D : EU}
theorem y_dictP {l : List Str} {g : Str → U} {QD : List Key × List U → Sto → Prop} (h : QD (dz (l.foldl addS []), (l.foldl addS []).map g) S) : Y (dictC [.lst (l.map fun k => .tup [.str k, g k])] S) QD := by
  have e : pairsOf (l.map fun k => U.tup [.str k, g k]) = some (l.map fun k => ((.inr k : Key), g k)) := by
    clear h
    induction l with
    | nil => rfl
    | cons k l ih =>
      rw [List.map_cons]
      unfold pairsOf
      rw [ih]
      rfl
  have e2 : dictC [.lst (l.map fun k => .tup [.str k, g k])] S = .ok (mergeU ([], []) (l.map fun k => ((.inr k : Key), g k))) S := by
    show (match (some (l.map fun k => U.tup [.str k, g k])).bind pairsOf with
      | some ps => R.ok (mergeU ([], []) ps) S
      | none => .bad) = _
    rw [Option.bind_some, e]
  rw [e2]
  have := merge_z g l []
  have e3 : mergeU (([] : List Key), ([] : List U)) (l.map fun k => ((.inr k : Key), g k)) = _ := this
  rw [e3]
  exact ⟨h⟩
theorem y_ixZ {zs : List Str} {g : Str → U} {k : Str} (hk : k ∈ zs) (h : Q (g k) S) : Y (ixU (.dic (dz zs) (zs.map g)) (.str k) S) Q := by
  refine y_oU (u := g k) ?_ h
  show valU (dz zs) (zs.map g) (.inr k) = _
  rw [val_z, if_pos hk]
theorem st_z {n : Nat} {zs : List Str} {g : Str → U} {k : Str} (h : S[n]? = some (.dic (dz zs) (zs.map g))) (hl : zs.length < sizeLine) : stU (.loc n) (.str k) (g k) S = some (S.set n (.dic (dz (addS zs k)) ((addS zs k).map g))) := by
  have := st_of (k := k) (v := g k) h (by unfold dz; rw [List.length_map]; exact hl) (put_z g k zs)
  exact this
end
section
variable {d : En} {S : Sto} {D : EU} {n i : Nat} {g : List U → Sto → R U} {fa : FA}
theorem ws_toSx {α : Type} {r : R α} {k : α → Sto → R Fl} (h : Pst r (fun a S1 => WS (k a S1) D) (fun x S1 => D.ex x d S1)) : WS (toS d r k) D := by
  cases r with
  | ok a S => exact h
  | exc x S => exact ⟨h⟩
  | bad => exact h.elim
theorem callX {Q : U → Sto → Prop} {E : Exc → Sto → Prop} (h : Y (fa d S) fun us S1 => (us.length == n) = true ∧ Pst (g us S1) Q E) : Pst (fCall n g fa d S) Q E := by
  obtain ⟨us, S1, e, h1, h2⟩ := h.ok
  show Pst ((fa d S).bind fun us S => guard (us.length == n) (g us S)) Q E
  rw [e]
  show Pst (guard (us.length == n) (g us S1)) Q E
  rw [h1]
  exact h2
theorem w_exprX (h : Y (fa d S) fun us S1 => (us.length == n) = true ∧ Pst (g us S1) (fun _ S2 => D.nx d S2) (fun x S2 => D.ex x d S2)) : WS (fExpr (fCall n g fa) d S) D := ws_toSx ((callX h).mono (fun _ _ q => ⟨q⟩) fun _ _ q => q)
theorem w_setX (h : Y (fa d S) fun us S1 => (us.length == n) = true ∧ Pst (g us S1) (fun u S2 => D.nx (d.set i (some u)) S2) (fun x S2 => D.ex x d S2)) : WS (fSet i (fCall n g fa) d S) D := ws_toSx ((callX h).mono (fun _ _ q => ⟨q⟩) fun _ _ q => q)
theorem y_runX {body : FS} {Q : U → Sto → Prop} {E : Exc → Sto → Prop} (h : WS (body d S) { nx := fun _ S1 => Q .non S1, rt := Q, ex := fun x _ S1 => E x S1 }) : Pst (runB body d S) Q E := by
  unfold runB
  cases e : body d S with
  | ok fl S1 =>
    rw [e] at h
    cases fl with
    | nx d => exact h.out
    | rt u => exact h.out
    | bk d => exact h.out.elim
    | ct d => exact h.out.elim
    | ex x d => exact h.out
  | exc x S => rw [e] at h; exact h.out.elim
  | bad => rw [e] at h; exact h.out.elim
theorem Y.pst {α : Type} {r : R α} {Q P : α → Sto → Prop} {E : Exc → Sto → Prop} (h : Y r Q) (q : ∀ a S, Q a S → P a S) : Pst r P E := Pst.mono h.out q fun _ _ z => z.elim
end
theorem w_try {m : Str → Option Bool} {i : Nat} {fb fs : FS} {d : En} {S : Sto} {D : EU}
    (h : WS (fb d S) { D with ex := fun x d1 S1 => m x.cls = some true ∧ WS (fs (d1.set i (some (.exc x.cls x.fld x.arg))) S1) { nx := fun d2 S2 => D.nx (d2.set i none) S2, rt := D.rt, bk := fun d2 S2 => D.bk (d2.set i none) S2, ct := fun d2 S2 => D.ct (d2.set i none) S2 } }) : WS (fTry m i fb fs d S) D := by
  unfold fTry
  cases e : fb d S with
  | bad => rw [e] at h; exact h.out.elim
  | exc x S1 => rw [e] at h; exact h.out.elim
  | ok fl S1 =>
    rw [e] at h
    cases fl with
    | nx d1 => exact ⟨h.out⟩
    | rt u => exact ⟨h.out⟩
    | bk d1 => exact ⟨h.out⟩
    | ct d1 => exact ⟨h.out⟩
    | ex x d1 =>
      obtain ⟨hm, h⟩ := h.out
      show WS (match m x.cls with
        | some true => match fs (d1.set i (some (.exc x.cls x.fld x.arg))) S1 with
          | .ok (.nx d2) S2 => .ok (.nx (d2.set i none)) S2
          | .ok (.rt u) S2 => .ok (.rt u) S2
          | .ok (.bk d2) S2 => .ok (.bk (d2.set i none)) S2
          | .ok (.ct d2) S2 => .ok (.ct (d2.set i none)) S2
          | _ => .bad
        | some false => .ok (.ex x d1) S1
        | none => .bad) D
      rw [hm]
      dsimp only
      cases e2 : fs (d1.set i (some (.exc x.cls x.fld x.arg))) S1 with
      | bad => rw [e2] at h; exact h.out.elim
      | exc y S2 => rw [e2] at h; exact h.out.elim
      | ok fl S2 =>
        rw [e2] at h
        cases fl with
        | nx d2 => exact ⟨h.out⟩
        | rt u => exact ⟨h.out⟩
        | bk d2 => exact ⟨h.out⟩
        | ct d2 => exact ⟨h.out⟩
        | ex y d2 => exact h.out.elim
section
variable {d d1 : En} {S : Sto} {D : EU} {gt : U → En → Option En} {g : FS} {u : U} {us : List U} {f : FE} {t : FT}
theorem w_lc (e : gt u d = some d1) (h : WS (g d1 S) { D with nx := fun d2 S2 => WS (loopF gt g us d2 S2) D, ct := fun d2 S2 => WS (loopF gt g us d2 S2) D, bk := D.nx }) : WS (loopF gt g (u :: us) d S) D := by
  unfold loopF
  rw [e]
  show WS (match g d1 S with
      | .ok (.nx d2) S1 => loopF gt g us d2 S1
      | .ok (.ct d2) S1 => loopF gt g us d2 S1
      | .ok (.bk d2) S1 => .ok (.nx d2) S1
      | r => r) D
  cases hg : g d1 S with
  | ok fl S1 =>
    rw [hg] at h
    cases fl <;> first | exact h.out | exact ⟨h.out⟩
  | exc x S => rw [hg] at h; exact h.out.elim
  | bad => rw [hg] at h; exact h.out.elim
theorem w_ln (h : D.nx d S) : WS (loopF gt g [] d S) D := ⟨h⟩
theorem y_cc {acc : List U} {Q : List U → Sto → Prop} (e : gt u d = some d1) (hl : acc.length < sizeLine) (h : Y (f d1 S) fun y S2 => Y (compF gt fYes f d us (acc ++ [y]) S2) Q) : Y (compF gt fYes f d (u :: us) acc S) Q := by
  unfold compF
  rw [e]
  obtain ⟨y, S2, e2, h⟩ := Y.ok h
  dsimp only [fYes]
  rw [e2]
  exact y_guard (decide_eq_true hl) h
theorem y_cn {acc : List U} {Q : List U → Sto → Prop} (h : Q acc S) : Y (compF gt t f d [] acc S) Q := ⟨h⟩
end
theorem cut_one (u : U) (us : List U) : cutU (u :: us) (some 1) none = us := cut_suf (u :: us) 1
theorem y_neSame {x y : U} {S : Sto} {Q : U → Sto → Prop} {a : PyData} (hx : toDS x S = some a) (hy : toDS y S = some a) (hs : SeqAt.shaped a = true) (hn : scalU x y = false) (h : Q (.bl false) S) : Y (neU x y S) Q := by
  unfold neU eqOk
  rw [hn, hx, hy]
  refine y_guard (by rw [hs]; rfl) ?_
  rw [eqv_refl a (SeqAt.canLay_of_shaped hs)]
  exact ⟨h⟩
theorem strs_D : ∀ zs : List Str, toDs (zs.map .str) = some (zs.map .str)
  | [] => rfl
  | z :: zs => by
    rw [List.map_cons]
    unfold toDs
    rw [strs_D zs]
    rfl
theorem strs_shaped {zs : List Str} (h : ∀ z ∈ zs, PyData.strOk z = true) : SeqAt.shaped (.list (zs.map .str)) = true := by
  have h1 : PyData.canLayAll0 (zs.map .str) = true ∧ PyData.depthAll (zs.map .str) ≤ 1 := by
    induction zs with
    | nil => exact ⟨rfl, Nat.zero_le _⟩
    | cons z zs ih =>
      obtain ⟨a, b⟩ := ih fun y hy => h y (List.mem_cons_of_mem _ hy)
      rw [List.map_cons]
      refine ⟨?_, ?_⟩
      · unfold PyData.canLayAll0
        rw [a, show PyData.canLay0 (.str z) = true from h z List.mem_cons_self]
        rfl
      · unfold PyData.depthAll
        rw [show PyData.depth (.str z) = 0 from rfl]
        omega
  unfold SeqAt.shaped
  rw [show PyData.canLay0 (.list (zs.map .str)) = true from by unfold PyData.canLay0; exact h1.1]
  rw [decide_eq_true (by unfold PyData.depth; have := h1.2; omega)]
  rfl
def fupd (ρ : Str → Bool) (k : Str) (b : Bool) : Str → Bool := fun z => if z = k then b else ρ z
abbrev bls (ρ : Str → Bool) : Str → U := fun z => .bl (ρ z)
theorem Y.eq {r : R U} {a : U} {S : Sto} (h : Y r fun u S' => u = a ∧ S' = S) : r = .ok a S := by
  obtain ⟨u, S', e, rfl, rfl⟩ := h.ok
  exact e
end DL
namespace DL
open PySem PySem.Spec L2 TL PyProof.Rows
section
variable {S : Sto} {Q : U → Sto → Prop} {QA : List U → Sto → Prop}
theorem y_alt {α : Type} {a b : R α} {Q : α → Sto → Prop} (h : Y a Q) : Y (alt a b) Q := by
  obtain ⟨x, S, rfl, q⟩ := h.ok
  exact ⟨q⟩
abbrev Lit := Str × Bool
def litU (p : Lit) : U := .tup [.str p.1, .bl p.2]
end
end DL
namespace DL
open PySem PySem.Spec L2 TL PyProof.Rows
section
def clU (c : List Lit) : U := .tup (c.map litU)
variable {S : Sto} {Q : U → Sto → Prop} {QA : List U → Sto → Prop}
theorem y_eqD {x y : U} {a b : PyData} (hx : toDS x S = some a) (hy : toDS y S = some b) (ha : SeqAt.shaped a = true) (hb : SeqAt.shaped b = true) (hn : scalU x y = false) (h : Q (.bl (PyData.eqv a b)) S) : Y (eqU x y S) Q := by
  unfold DL.eqU eqOk
  rw [hn]
  show Y (match toDS x S, toDS y S with
    | some a, some b => guard (SeqAt.shaped a && SeqAt.shaped b) (R.ok (U.bl (PyData.eqv a b)) S)
    | _, _ => R.bad) Q
  rw [hx, hy]
  exact y_guard (by rw [ha, hb]; rfl) ⟨h⟩
theorem y_neD {x y : U} {a b : PyData} (hx : toDS x S = some a) (hy : toDS y S = some b) (ha : SeqAt.shaped a = true) (hb : SeqAt.shaped b = true) (hn : scalU x y = false) (h : Q (.bl (!PyData.eqv a b)) S) : Y (neU x y S) Q := by
  unfold DL.neU eqOk
  rw [hn]
  show Y (match toDS x S, toDS y S with
    | some a, some b => guard (SeqAt.shaped a && SeqAt.shaped b) (R.ok (U.bl (!PyData.eqv a b)) S)
    | _, _ => R.bad) Q
  rw [hx, hy]
  exact y_guard (by rw [ha, hb]; rfl) ⟨h⟩
theorem y_compFX {α : Type} {gt : U → En → Option En} {t : FT} {g : FE} {d : En} {Q : List U → Sto → Prop} (f : α → U) (p : α → Bool) (h : α → U) : ∀ (xs : List α) (acc : List U), (∀ x ∈ xs, ∃ d1, gt (f x) d = some d1 ∧ Y (t d1 S) (fun b S2 => b = p x ∧ S2 = S) ∧ (p x = true → Y (g d1 S) fun y S2 => y = h x ∧ S2 = S)) → acc.length + xs.length ≤ sizeLine → Q (acc ++ (xs.filter p).map h) S → Y (compF gt t g d (xs.map f) acc S) Q
  | [], acc, _, _, q => by rw [List.filter_nil, List.map_nil, List.append_nil] at q; exact y_cn q
  | x :: xs, acc, hs, hl, q => by
    obtain ⟨d1, e1, h1, h2⟩ := hs x List.mem_cons_self
    rw [List.length_cons] at hl
    rw [List.map_cons]
    unfold compF
    rw [e1]
    have e2 : t d1 S = .ok (p x) S := by
      obtain ⟨b, S1, e2, hb, hS⟩ := h1.ok
      rw [e2, hb, hS]
    dsimp only
    rw [e2]
    cases hp : p x with
    | true =>
      have e3 : g d1 S = .ok (h x) S := by
        obtain ⟨y, S2, e3, hy, hS⟩ := (h2 hp).ok
        rw [e3, hy, hS]
      dsimp only
      rw [e3]
      refine y_guard (decide_eq_true (by omega)) (y_compFX f p h xs _ (fun z hz => hs z (List.mem_cons_of_mem _ hz)) (by rw [List.length_append, List.length_singleton]; omega) ?_)
      rw [List.filter_cons_of_pos hp, List.map_cons] at q
      rw [List.append_assoc]
      exact q
    | false =>
      rw [List.filter_cons_of_neg (by rw [hp]; decide)] at q
      exact y_compFX f p h xs acc (fun z hz => hs z (List.mem_cons_of_mem _ hz)) (by omega) q
theorem y_compX {α : Type} {gt : U → En → Option En} {g : FE} {d : En} {Q : List U → Sto → Prop} (f : α → U) (h : α → U) (xs : List α) (acc : List U) (hs : ∀ x ∈ xs, ∃ d1, gt (f x) d = some d1 ∧ Y (g d1 S) fun y S2 => y = h x ∧ S2 = S) (hl : acc.length + xs.length ≤ sizeLine) (q : Q (acc ++ xs.map h) S) : Y (compF gt fYes g d (xs.map f) acc S) Q := by
  refine y_compFX f (fun _ => true) h xs acc (fun x hx => ?_) hl (by rw [List.filter_eq_self.mpr fun _ _ => rfl]; exact q)
  obtain ⟨d1, e1, h1⟩ := hs x hx
  exact ⟨d1, e1, ⟨rfl, rfl⟩, fun _ => h1⟩
theorem dict_loc {f : Nat} {ks : List Key} {us : List U} (hf : S[f]? = some (.dic ks us)) : dictOf (.loc f) S = some (ks, us) := by
  unfold dictOf
  simp only [hf]
end
end DL
namespace DL
open PySem PySem.Spec L2 TL PyProof.Rows
section
variable {S : Sto} {d : En} {Q : U → Sto → Prop} {QA : List U → Sto → Prop} {D : EU} {E : Exc → Sto → Prop}
theorem y_ixLst {us : List U} {i : Nat} {u : U} (h : us[i]? = some u) (q : Q u S) : Y (ixU (.lst us) (.int (i : Int)) S) Q := y_ix (show ixB (.lst us) (.int i) S = some u from atI_nat h) q
theorem y_negI {i : Int} (h : Q (.int (-i)) S) : Y (negU (.int i) S) Q := ⟨h⟩
theorem Fr.thenNew {ms : List Nat} {S S1 S2 : Sto} {f : Nat} (a : Fr ms S S1) (b : Fr [f] S1 S2) (h : S.length ≤ f) : Fr ms S S2 :=
  ⟨Nat.le_trans a.1 b.1, fun m hm hn => (b.2 m (Nat.lt_of_lt_of_le hm a.1) (by simp; omega)).trans (a.2 m hm hn)⟩
inductive CStep where
  | giv (c : List Lit)
  | met (i j : Nat) (n : Str)
  deriving DecidableEq
def CStep.u : CStep → U
  | .giv c => .tup [.str "given", clU c]
  | .met i j n => .tup [.str "met", .int (i : Int), .int (j : Int), .str n]
theorem eqv_nil (ds : List PyData) : PyData.eqv (.list ds) (.list []) = ds.isEmpty := by
  unfold PyData.eqv
  cases ds with
  | nil => unfold PyData.eqvAll; rfl
  | cons d ds => unfold PyData.eqvAll; rfl
theorem rng_eq (n : Nat) : rngU 0 1 n = (List.range n).map fun (i : Nat) => U.int (0 + (i : Int) * 1) := rfl
end
end DL
namespace DL
open PySem PySem.Spec L2
section
variable {d : En} {S : Sto} {Q : U → Sto → Prop} {QA : List U → Sto → Prop}
end
end DL
namespace DL
open PySem PySem.Spec L2
section
variable {d : En} {S : Sto} {Q : U → Sto → Prop} {QA : List U → Sto → Prop}
variable {n : Nat} {ks : List (List Lit)} {G : List Lit → U} {c : List Lit}
end
end DL
namespace DL
open PySem PySem.Spec L2
section
variable {d : En} {S : Sto} {Q : U → Sto → Prop} {QA : List U → Sto → Prop} {fa fb fe : FE} {ga : FA} {D : EU}
abbrev TRow := List Str × (Str → Bool)
def rowO (r : TRow) : Ob := .dic (dz r.1) (r.1.map (bls r.2))
def rowAdd (r : TRow) (p : Str × Bool) : TRow := (addS r.1 p.1, fupd r.2 p.1 p.2)
end
end DL
namespace DL
open PySem PySem.Spec L2
def trL (r : TRow) (p : Lit) : Bool := decide (p.1 ∈ r.1) && (r.2 p.1 == p.2)
def satR (r : TRow) (K : List Lit) : Bool := K.any (trL r)
def lftR (r : TRow) (K : List Lit) : List Lit := K.filter fun p => !decide (p.1 ∈ r.1)
theorem lft_mem {r : TRow} {K : List Lit} {p : Lit} : p ∈ lftR r K ↔ p ∈ K ∧ p.1 ∉ r.1 := by
  unfold lftR
  rw [List.mem_filter, Bool.not_eq_true', decide_eq_false_iff_not]
def Uni (kn : List (List Lit)) (r r' : TRow) : Prop := ∃ K ∈ kn, ∃ q, satR r K = false ∧ lftR r K = [q] ∧ r' = rowAdd r q
inductive Rch (kn : List (List Lit)) (r : TRow) : TRow → Prop
  | refl : Rch kn r r
  | step {r1 r2 : TRow} : Rch kn r r1 → Uni kn r1 r2 → Rch kn r r2
def Cnf (kn : List (List Lit)) (r : TRow) : Prop := ∃ K ∈ kn, satR r K = false ∧ lftR r K = []
def Clo (kn : List (List Lit)) (r : TRow) : Prop := ∃ r', Rch kn r r' ∧ Cnf kn r'
def SubR (r r' : TRow) : Prop := ∀ n ∈ r.1, n ∈ r'.1 ∧ r'.2 n = r.2 n
theorem SubR.refl (r : TRow) : SubR r r := fun n h => ⟨h, rfl⟩
theorem SubR.trans {a b c : TRow} (h : SubR a b) (h2 : SubR b c) : SubR a c := fun n hn => ⟨(h2 n (h n hn).1).1, ((h2 n (h n hn).1).2).trans (h n hn).2⟩
theorem rowAdd_mem {r : TRow} {p : Lit} {n : Str} : n ∈ (rowAdd r p).1 ↔ n ∈ r.1 ∨ n = p.1 := addS_mem
theorem rowAdd_val (r : TRow) (p : Lit) (n : Str) : (rowAdd r p).2 n = if n = p.1 then p.2 else r.2 n := rfl
theorem sub_add {r : TRow} {p : Lit} (h : p.1 ∉ r.1) : SubR r (rowAdd r p) := fun n hn => ⟨rowAdd_mem.mpr (.inl hn), by rw [rowAdd_val, if_neg fun (e : n = p.1) => h (by rw [← e]; exact hn)]⟩
theorem lft_new {r : TRow} {K : List Lit} {q : Lit} (h : lftR r K = [q]) : q ∈ K ∧ q.1 ∉ r.1 := lft_mem.mp (by rw [h]; simp)
theorem Rch.sub {kn : List (List Lit)} {r r' : TRow} (h : Rch kn r r') : SubR r r' := by
  induction h with
  | refl => exact SubR.refl _
  | step _ u ih =>
    obtain ⟨K, _, q, _, h2, rfl⟩ := u
    exact ih.trans (sub_add (lft_new h2).2)
theorem Clo.more {kn kn' : List (List Lit)} {r : TRow} (h : Clo kn r) (hs : ∀ K ∈ kn, K ∈ kn') : Clo kn' r := by
  obtain ⟨r1, a, K, hK, b⟩ := h
  refine ⟨r1, ?_, K, hs K hK, b⟩
  clear b hK
  induction a with
  | refl => exact .refl
  | step _ u ih =>
    obtain ⟨K, hK, q, h⟩ := u
    exact ih.step ⟨K, hs K hK, q, h⟩
end DL
set_option maxHeartbeats 1000000
namespace DL
open PySem PySem.Spec PyProof.Rows L2
theorem y_lrg {fe : FE} {d : En} {S : Sto} {QA : List U → Sto → Prop} (h : Y (fe d S) fun u S1 => ∃ l : Nat, u = .int (l : Int) ∧ l ≤ 100000 ∧ QA ((List.range l).map fun (i : Nat) => U.int (i : Int)) S1) : Y (aLRg fe d S) QA := y_bind (h.mono fun u S1 ⟨l, e, h2, h3⟩ => by
  subst e
  refine y_guard (by rw [decide_eq_true (by omega), decide_eq_true (by omega)]; rfl) (y_ok ?_)
  have e : rngU 0 1 ((l : Nat) : Int).toNat = (List.range l).map fun (i : Nat) => U.int (i : Int) := by
    rw [Int.toNat_natCast]
    unfold rngU
    refine List.map_congr_left fun i _ => ?_
    show U.int (0 + (i : Int) * 1) = U.int (i : Int)
    rw [Int.zero_add, Int.mul_one]
  rw [e]
  exact h3)
end DL
namespace DL
open PySem PySem.Spec L2
def RowAt (a : U) (S : Sto) (r : TRow) : Prop := dictOf a S = some (dz r.1, r.1.map (bls r.2))
theorem rowAt_loc {n : Nat} {S : Sto} {r : TRow} (h : S[n]? = some (rowO r)) : RowAt (.loc n) S r := dict_loc h
section
variable {d : En} {S : Sto} {Q : U → Sto → Prop} {QA : List U → Sto → Prop} {a : U} {r : TRow} {n : Str}
theorem y_step {fa fb : FE} (h : Y (fa d S) fun x S1 => Y (fb d S1) fun y S2 => ∃ us k, DL.listOf x S2 = some us ∧ y = .int k ∧ (k = 1 ∨ k = -1) ∧ QA (stepV k us) S2) : Y (aStep fa fb d S) QA := y_bind (h.mono fun x S1 h1 => y_bind (h1.mono fun y S2 ⟨us, k, e1, e2, hk, q⟩ => by
  subst e2
  rw [e1]
  exact y_guard (decide_eq_true hk) ⟨q⟩))
end
end DL
namespace Law
open PySem PySem.Spec L2 DL
local macro_rules | `(tactic| walk_at "wp") => `(tactic| (repeat (first | (with_reducible refine yY ?_; first | with_reducible refine y_var (by with_unfolding_all exact rfl) ?_ | with_reducible refine y_cons ?_ | with_reducible refine y_nil ?_ | with_reducible refine y_f2 ?_ | with_reducible refine y_C ?_ | with_reducible refine y_A ?_ | with_reducible refine y_unB ?_ | with_reducible refine y_call ?_ | with_reducible refine y_eqS ?_ | with_reducible refine y_val ?_ | with_reducible refine y_B ?_ | with_reducible refine y_tru ?_ | with_reducible refine y_tbl ?_ | with_reducible refine y_M ?_ | with_reducible refine y_rng1 ?_ | with_reducible refine y_over ?_ | with_reducible refine y_not ?_ | with_reducible refine y_and ?_ | with_reducible refine y_lst ?_ | with_reducible refine y_aComp ?_ | with_reducible refine y_tup ?_ | with_reducible refine y_f1 ?_ | with_reducible refine y_ch ?_ | with_reducible refine y_or ?_ | with_reducible refine y_andV ?_ | with_reducible refine y_notV ?_ | with_reducible refine y_loc ?_ | with_reducible refine y_dval ?_ | with_reducible refine y_dloc ?_ | with_reducible refine y_ice ?_ | with_reducible refine y_oNone ?_ | with_reducible refine y_oSome ?_ | with_reducible refine y_sl ?_ | with_reducible refine y_addI ?_ | with_reducible refine y_subI ?_ | with_reducible refine y_ltI ?_ | with_reducible refine y_leI ?_ | with_reducible refine y_gtI ?_ | with_reducible refine y_geI ?_ | with_reducible refine y_eqI ?_ | with_reducible refine y_neI ?_ | with_reducible refine y_eqB ?_ | with_reducible refine y_neB ?_ | with_reducible refine y_neS ?_ | with_reducible refine y_isN ?_ | with_reducible refine y_isnN ?_ | with_reducible refine y_wget ?_ | with_reducible refine y_mkx1 ?_ | with_reducible refine y_aAdd ?_ | with_reducible refine y_cn ?_) | (with_reducible refine wW ?_; first | with_reducible refine w_seq ?_ | with_reducible refine w_set ?_ | with_reducible refine w_expr ?_ | with_reducible refine w_ret ?_ | with_reducible refine w_for ?_ | with_reducible refine w_retN ?_ | with_reducible refine w_store ?_ | with_reducible refine w_nop ?_ | with_reducible refine w_asg ?_ | with_reducible refine w_ct ?_ | with_reducible refine w_brk ?_ | with_reducible refine w_ln ?_) | with_reducible refine And.intro (len_ok (by with_unfolding_all exact rfl)) ?_)))
theorem pow18 : (10 : Int) ^ (18 : Int).toNat = 1000000000000000000 := by decide
theorem pow6 : (10 : Int) ^ (6 : Int).toNat = 1000000 := by decide
theorem primes_in {p : U} (h : p ∈ ([.int 2147483647, .int 2147483629, .int 2147483587, .int 2147483579, .int 2147483563, .int 2147483549, .int 2147483543] : List U)) : ∃ i : Int, p = .int i ∧ 2147483543 ≤ i ∧ i ≤ 2147483647 := by
  simp only [List.mem_cons, List.mem_nil_iff, or_false] at h
  rcases h with rfl | rfl | rfl | rfl | rfl | rfl | rfl <;> exact ⟨_, rfl, by decide, by decide⟩
theorem draw_step {k n : Nat} {b many c : Int} {S : Sto} (hc : 1 ≤ c) (t : Tape n b S) (hb : b ≤ 2 ^ 100) (h0 : 0 < many) (h1 : many < 2 ^ 200)
    (hrec : 1000000 < many → ∀ S1, Tape n (b + 1) S1 → Y (call k i_law_draw [.loc n, .int (many / 1000000 + 1)] S1) (Drawn1 n (b + c) (many / 1000000 + 1) S1)) :
    Y (call (k + 1) i_law_draw [.loc n, .int many] S) (Drawn1 n (b + c) many S) := by
  obtain ⟨cs, sp, lf, h, hl, hs0, hsb, hf⟩ := t
  have hn : n < S.length := (List.getElem?_eq_some_iff.mp h).1
  refine y_run ?_
  show WS (b_law_draw (call k) [some (.loc n), some (.int many), none, none, none, none, none, none, none] S) _
  unfold b_law_draw
  walk_at "wp"
  refine w_if ?_
  walk_at "wp"
  refine y_ix (ix_left h) ?_
  walk_at "wp"
  refine ite_b (fun c => ?_) (fun c => ?_)
  · have c := of_decide_eq_true c
    walk_at "wp"
    refine y_ix (ix_left h) ?_
    walk_at "wp"
    refine y_modI h0 ?_
    walk_at "wp"
    refine y_ix (ix_left h) ?_
    walk_at "wp"
    refine y_fdivI h0 (log_lt h0 h1) ?_
    walk_at "wp"
    refine ⟨_, st_left h, ?_⟩
    walk_at "wp"
    refine ⟨lf % many, rfl, Int.emod_nonneg _ (by omega), Int.emod_lt_of_pos _ h0, ?_, ?_, ?_⟩
    · exact ⟨cs, sp, lf / many, List.getElem?_set_self hn, hl, hs0, by omega, Int.ediv_nonneg hf (by omega)⟩
    · exact List.length_set
    · exact Fr.set (List.mem_singleton.mpr rfl)
  · walk_at "wp"
    refine y_ix (ix_spot h) ?_
    walk_at "wp"
    refine ⟨_, st_spot h, ?_⟩
    have h2 : (S.set n (tapeO cs (sp + 1) lf))[n]? = some (tapeO cs (sp + 1) lf) := List.getElem?_set_self hn
    have f2 : Fr [n] S (S.set n (tapeO cs (sp + 1) lf)) := Fr.set (List.mem_singleton.mpr rfl)
    have l2 : (S.set n (tapeO cs (sp + 1) lf)).length = S.length := List.length_set
    generalize S.set n (tapeO cs (sp + 1) lf) = S2 at h2 f2 l2 ⊢
    walk_at "wp"
    refine y_orC hl (show (oU (ixB (.loc n) (.str "cells") S2) S2) = _ by rw [ix_cells h2]; rfl) rfl fun ds d0 d1 => ?_
    walk_at "wp"
    refine y_lenL ?_
    rw [List.length_map]
    refine y_modI (by omega) ?_
    refine y_ixI (Int.emod_nonneg _ (by omega)) (Int.emod_lt_of_pos _ (by omega)) fun cell => ?_
    walk_at "wp"
    refine w_ifP (fun b => b = true → 1000000000000000000 ≤ cell) ?_ (fun hc => ?_) (fun _ => ?_)
    · walk_at "wp"
      refine y_powI (by decide) (by decide) (by decide) ?_
      rw [pow18]
      walk_at "wp"
      refine ite_b (fun c1 => ?_) (fun c1 => ?_)
      · walk_at "wp"
        refine y_lenL ?_
        walk_at "wp"
        exact ⟨rfl, fun _ => of_decide_eq_true c1⟩
      · exact ⟨rfl, fun h => by cases h⟩
    · have hc := hc rfl
      walk_at "wp"
      refine y_powI (by decide) (by decide) (by decide) ?_
      rw [pow18]
      walk_at "wp"
      refine y_fdivI h0 (log_lt h0 h1) ?_
      walk_at "wp"
      refine ⟨_, st_left h2, ?_⟩
      walk_at "wp"
      refine y_powI (by decide) (by decide) (by decide) ?_
      rw [pow18]
      walk_at "wp"
      refine y_modI h0 ?_
      walk_at "wp"
      refine ⟨_, rfl, Int.emod_nonneg _ (by omega), Int.emod_lt_of_pos _ h0, ?_, ?_, ?_⟩
      · exact ⟨cs, sp + 1, (cell - 1000000000000000000) / many, List.getElem?_set_self (by omega), hl, by omega, by omega, Int.ediv_nonneg (by omega) (by omega)⟩
      · rw [List.length_set]; exact l2
      · exact f2.trans (Fr.set (List.mem_singleton.mpr rfl))
    have hm0 : 0 ≤ sp % 7 := Int.emod_nonneg _ (by decide)
    have hm1 : sp % 7 < 7 := Int.emod_lt_of_pos _ (by decide)
    walk_at "wp"
    refine y_modI (by decide) ?_
    refine y_ixL hm0 hm1 fun p hp _ => ?_
    obtain ⟨p, rfl, hp0, hp1⟩ : ∃ i : Int, p = .int i ∧ 2147483543 ≤ i ∧ i ≤ 2147483647 := primes_in hp
    walk_at "wp"
    refine y_modI (by omega) ?_
    have c0 := Int.emod_nonneg cell (by omega : p ≠ 0)
    have c1 := Int.emod_lt_of_pos cell (by omega : 0 < p)
    walk_at "wp"
    with_reducible refine y_mulI ?_ ?_
    · exact mul_ok (a := 40) (b := 40) (natAbs_lt c0 (by omega)) (by decide) (by decide)
    walk_at "wp"
    with_reducible refine y_mulI ?_ ?_
    · exact mul_ok (a := 40) (b := 101) (by decide) (natAbs_lt hs0 (by omega)) (by decide)
    walk_at "wp"
    with_reducible refine y_mulI ?_ ?_
    · exact mul_ok (a := 150) (b := 101) (natAbs_lt (by omega) (by omega)) (natAbs_lt hs0 (by omega)) (by decide)
    walk_at "wp"
    with_reducible refine y_mulI ?_ ?_
    · exact mul_ok (a := 40) (b := 101) (by decide) (natAbs_lt hs0 (by omega)) (by decide)
    walk_at "wp"
    refine y_modI (by omega) ?_
    generalize (cell % p * 48271 + 7919 * sp * sp + 69621 * sp + 1) = s1
    have s0 := Int.emod_nonneg s1 (by omega : p ≠ 0)
    have s2 := Int.emod_lt_of_pos s1 (by omega : 0 < p)
    generalize s1 % p = s1 at s0 s2 ⊢
    walk_at "wp"
    with_reducible refine y_mulI ?_ ?_
    · exact mul_ok (a := 40) (b := 41) (natAbs_lt s0 (by omega)) (natAbs_lt (by omega) (by omega)) (by decide)
    walk_at "wp"
    refine y_modI (by decide) ?_
    refine y_ixL (Int.emod_nonneg _ (by decide)) (Int.emod_lt_of_pos _ (by decide)) fun q hq _ => ?_
    obtain ⟨q, rfl, hq0, hq1⟩ : ∃ i : Int, q = .int i ∧ 2147483543 ≤ i ∧ i ≤ 2147483647 := primes_in hq
    refine y_modI (by omega) ?_
    generalize s1 * (s1 + 16807) = s3
    have s4 := Int.emod_nonneg s3 (by omega : q ≠ 0)
    have s5 := Int.emod_lt_of_pos s3 (by omega : 0 < q)
    generalize s3 % q = s3 at s4 s5 ⊢
    walk_at "wp"
    with_reducible refine y_mulI ?_ ?_
    · exact mul_ok (a := 40) (b := 41) (natAbs_lt s4 (by omega)) (natAbs_lt s4 (by omega)) (by decide)
    walk_at "wp"
    refine y_modI (by omega) ?_
    walk_at "wp"
    refine y_fdivI (by decide) (by decide) ?_
    generalize s3 * s3 % p / 64 = s6
    walk_at "wp"
    refine w_if ?_
    walk_at "wp"
    refine y_powI (by decide) (by decide) (by decide) ?_
    rw [pow6]
    walk_at "wp"
    refine ite_b (fun c2 => ?_) (fun c2 => ?_)
    · have c2 := of_decide_eq_true c2
      walk_at "wp"
      refine y_powI (by decide) (by decide) (by decide) ?_
      rw [pow6]
      walk_at "wp"
      refine y_modI (by decide) ?_
      walk_at "wp"
      refine y_powI (by decide) (by decide) (by decide) ?_
      rw [pow6]
      walk_at "wp"
      refine y_powI (by decide) (by decide) (by decide) ?_
      rw [pow6]
      walk_at "wp"
      refine y_fdivI (by decide) (by decide) ?_
      walk_at "wp"
      refine ⟨rfl, ?_⟩
      refine (hrec c2 S2 ⟨cs, sp + 1, lf, h2, hl, by omega, by omega, hf⟩).mono ?_
      rintro _ S3 ⟨r, rfl, r0, r1, t3, l3, f3⟩
      with_reducible refine y_mulI ?_ ?_
      · exact mul_ok (a := 40) (b := 201) (by decide) (natAbs_lt r0 (by omega)) (by decide)
      walk_at "wp"
      refine y_modI h0 ?_
      exact ⟨_, rfl, Int.emod_nonneg _ (by omega), Int.emod_lt_of_pos _ h0, t3, l3.trans l2, f2.trans f3⟩
    · walk_at "wp"
      refine y_modI h0 ?_
      exact ⟨_, rfl, Int.emod_nonneg _ (by omega), Int.emod_lt_of_pos _ h0, ⟨cs, sp + 1, lf, h2, hl, by omega, by omega, hf⟩, l2, f2⟩
theorem draw {k n : Nat} {b many : Int} {S : Sto} (t : Tape n b S) (hb : b ≤ 2 ^ 100) (h0 : 0 < many) (h1 : many ≤ 1000000) : Y (call (k + 1) i_law_draw [.loc n, .int many] S) (Drawn1 n (b + 30) many S) :=
  draw_step (by decide) t hb h0 (by omega) fun h => absurd h (by omega)
def w7 : List Str := ["not", "and", "or", "gives", "is", "yes", "no"]
theorem all_map {α : Type} {us : List α} (g : α → Bool) {S : Sto} {Q : U → Sto → Prop} (h : Q (.bl (us.all g)) S) : Y (allC [.lst (us.map fun c => U.bl (g c))] S) Q := by
  have e : (us.map g).all id = us.all g := by rw [List.all_map]; rfl
  unfold allC overL DL.listOf listM
  simp only [boolsOf_map, e]
  exact ⟨h⟩
theorem letters_low : Low "abcdefghijklmnopqrstuvwxyz" := by unfold Low; decide +kernel
theorem letters_len : (Str.length "abcdefghijklmnopqrstuvwxyz") = 26 := by decide +kernel
def ownW : List Str := ["nota", "andy", "org", "isa", "yesno", "given", "noa", "same"]
theorem own_split : Txt.split "nota andy org isa yesno given noa same" " " = ownW := by decide +kernel
theorem own_low : ∀ z ∈ ownW, Low z ∧ 1 ≤ z.length ∧ z.length ≤ 8 := by unfold Low; decide +kernel
theorem y_letter {i : Int} {S : Sto} {Q : U → Sto → Prop} (h0 : 0 ≤ i) (h1 : i < 26) (h : ∀ z : Str, Low z → z.length = 1 → Q (.str z) S) : Y (ixU (.str "abcdefghijklmnopqrstuvwxyz") (.int i) S) Q :=
  y_ixS (by rw [letters_len]; decide) h0 (by rw [show (Str.cps "abcdefghijklmnopqrstuvwxyz").toList.length = 26 from by decide +kernel]; exact h1) fun c hc _ => h _ (letters_low.one hc) rfl
def WordL (z : Str) : Prop := Low z ∧ 1 ≤ z.length ∧ z.length ≤ 8
def lastS (z : Str) : Option Nat := (TL.tl z).getLast?
theorem last_app (x : Str) (c : Nat) : lastS (x ++ ⟨#[c]⟩) = some c := by
  unfold lastS
  rw [TL.tl_append]
  show (TL.tl x ++ [c]).getLast? = some c
  rw [List.getLast?_append]
  rfl
theorem nodup_sub {α : Type} [DecidableEq α] : ∀ {l m : List α}, l.Nodup → (∀ x ∈ l, x ∈ m) → l.length ≤ m.length
  | [], m, _, _ => Nat.zero_le _
  | x :: l, m, hn, h => by
    rw [List.nodup_cons] at hn
    have hx := h x List.mem_cons_self
    have := nodup_sub (l := l) (m := m.erase x) hn.2 fun y hy => (List.mem_erase_of_ne (fun e => hn.1 (by rw [← e]; exact hy))).mpr (h y (List.mem_cons_of_mem _ hy))
    rw [List.length_erase_of_mem hx] at this
    have hp : 0 < m.length := List.length_pos_of_mem hx
    rw [List.length_cons]
    omega
def lettersL : List Nat := TL.tl "abcdefghijklmnopqrstuvwxyz"
theorem letters_nd : (lettersL.map some).Nodup := by decide +kernel
theorem letters_26 : lettersL.length = 26 := by decide +kernel
theorem not_all {bad : List Str} (hb : bad.length < 26) : ¬ ∀ c ∈ lettersL, some c ∈ bad.map lastS := fun h => by
  have := nodup_sub (m := bad.map lastS) letters_nd fun x hx => by
    obtain ⟨c, hc, rfl⟩ := List.mem_map.mp hx
    exact h c hc
  rw [List.length_map, List.length_map, letters_26] at this
  omega
theorem words {k n m : Nat} {b : Int} {S : Sto} (t0 : Tape n b S) (hb : b + 30 * (8 + 3 * m) ≤ 2 ^ 100) (hm : m ≤ 18) :
    Y (call (k + 2) i_law_words [.loc n, .int m] S) fun u S' => ∃ ws : List Str, u = .lst (ws.map .str) ∧ ws.length = m ∧ (∀ w ∈ ws, WordL w ∧ w ∉ w7) ∧ ws.Nodup ∧ Tape n (b + 30 * (8 + 3 * m)) S' ∧ Fr [n] S S' := by
  refine y_run ?_
  show WS (b_law_words (call (k + 1)) [some (.loc n), some (.int m), none, none, none, none, none, none, none, none, none] S) _
  unfold b_law_words
  walk_at "wp"
  refine ⟨rfl, ?_⟩
  walk_at "wp"
  refine y_guard (by decide +kernel) (y_ok ?_)
  rw [own_split]
  walk_at "wp"
  refine ⟨rfl, ?_⟩
  walk_at "wp"
  refine ⟨rfl, (draw t0 (by omega) (by first | decide | omega) (by first | decide | omega)).mono ?_⟩; rintro _ S1 ⟨r1, rfl, r10, r11, t1, l1, f1⟩
  walk_at "wp"
  refine ⟨_, rfl, by omega, by omega, ?_⟩
  refine (y_comp (Q := fun us S2 => ∃ ys : List Str, us = ys.map .str ∧ (∀ y ∈ ys, Low y ∧ y.length = 1) ∧ 1 ≤ ys.length ∧ ys.length ≤ 6 ∧ Tape n (b + 210) S2 ∧ Fr [n] S S2)
    (fun us acc S2 => ∃ ys : List Str, acc = ys.map .str ∧ (∀ y ∈ ys, Low y ∧ y.length = 1) ∧ (us.length : Int) + ys.length = 1 + r1 ∧ Tape n (b + 30 + 30 * ys.length) S2 ∧ Fr [n] S S2) ?_ ?_ _ _ _ ?_).mono ?_
  · rintro u us _ S2 ⟨ys, rfl, hy, hc, t2, f2⟩
    rw [List.length_cons] at hc
    refine ⟨by rw [List.length_map, sizeL]; omega, _, rfl, ?_⟩
    refine y_ok ?_
    rw [if_pos rfl]
    walk_at "wp"
    refine ⟨rfl, (draw t2 (by omega) (by first | decide | omega) (by first | decide | omega)).mono ?_⟩; rintro _ S3 ⟨r3, rfl, r30, r31, t3, l3, f3⟩
    refine y_letter r30 r31 fun z hz1 hz2 => ?_
    refine ⟨ys ++ [z], by rw [List.map_append]; rfl, fun y h => (List.mem_append.mp h).elim (hy y) (fun h => ?_), by rw [List.length_append, List.length_singleton]; omega, t3.mono (by rw [List.length_append, List.length_singleton]; omega), f2.trans f3⟩
    rw [List.mem_singleton.mp h]
    exact ⟨hz1, hz2⟩
  · rintro _ S2 ⟨ys, rfl, hy, hc, t2, f2⟩
    exact ⟨ys, rfl, hy, by simp only [List.length_nil] at hc; omega, by simp only [List.length_nil] at hc; omega, t2.mono (by simp only [List.length_nil] at hc; omega), f2⟩
  · exact ⟨[], rfl, (by intro y h; cases h), by rw [rng_len]; simp only [List.length_nil]; omega, t1.mono (by simp only [List.length_nil]; omega), f1⟩
  rintro _ S2 ⟨ys, rfl, hy, hy1, hy6, t2, f2⟩
  walk_at "wp"
  refine y_join1 (fun y h => (hy y h).2) (by omega) ?_
  have hbl : Low (Txt.join "" ys) := Low.join fun y h => (hy y h).1
  have hbn : (Txt.join "" ys).length = ys.length := len_join fun y h => (hy y h).2
  generalize Txt.join "" ys = base at hbl hbn ⊢
  walk_at "wp"
  have f3 : Fr [n] S (S2 ++ [.lst []]) := f2.trans Fr.push
  have t3 : Tape n (b + 210) (S2 ++ [.lst []]) := t2.fr (ms := []) Fr.push (by simp)
  have hf : (S2 ++ [Ob.lst []])[S2.length]? = some (.lst []) := sto_snoc
  have hfs : S.length ≤ S2.length := f2.1
  have hfn : n < S.length := t0.lt
  generalize S2 ++ [Ob.lst []] = S3 at f3 t3 hf ⊢
  generalize S2.length = f at hf hfs ⊢
  clear hy
  walk_at "wp"
  refine ⟨_, rfl, by omega, by omega, ?_⟩
  refine w_loop (fun us d S4 => ∃ (ws : List Str) (x6 x7 x8 x9 x10 : Option U), d = [some (.loc n), some (.int m), some (.str "abcdefghijklmnopqrstuvwxyz"), some (.lst (ownW.map .str)), some (.str base), some (.loc f), x6, x7, x8, x9, x10] ∧ us.length + ws.length = m ∧ (∀ w ∈ ws, WordL w ∧ w ∉ w7) ∧ ws.Nodup ∧ Tape n (b + 210 + 90 * ws.length) S4 ∧ S4[f]? = some (.lst (ws.map .str)) ∧ Fr [n] S S4) ?_ ?_ _ _ _ ?_
  · rintro u us _ S4 ⟨ws, x6, x7, x8, x9, x10, rfl, hc, hw, hnd, t4, hf4, f4⟩
    rw [List.length_cons] at hc
    refine ⟨_, rfl, ?_⟩
    walk_at "wp"
    refine ⟨rfl, (draw t4 (by omega) (by first | decide | omega) (by first | decide | omega)).mono ?_⟩; rintro _ S5 ⟨r5, rfl, r50, r51, t5, l5, f5⟩
    refine y_letter r50 r51 fun z hz1 hz2 => ?_
    walk_at "wp"
    refine y_addS (by rw [sizeL]; omega) ?_
    walk_at "wp"
    refine y_addS (by rw [sizeL]; omega) ?_
    walk_at "wp"
    refine y_addS (by rw [sizeL]; omega) ?_
    walk_at "wp"
    refine y_addS (by rw [len_app, sizeL]; omega) ?_
    walk_at "wp"
    refine ⟨rfl, (draw t5 (by omega) (by first | decide | omega) (by first | decide | omega)).mono ?_⟩; rintro _ S6 ⟨r6, rfl, r60, r61, t6, l6, f6⟩
    refine y_ixL r60 r61 fun o ho _ => ?_
    obtain ⟨o, hoo, rfl⟩ := List.mem_map.mp ho
    have ho := own_low o hoo
    walk_at "wp"
    refine ⟨rfl, (draw t6 (by omega) (by first | decide | omega) (by first | decide | omega)).mono ?_⟩; rintro _ S7 ⟨r7, rfl, r70, r71, t7, l7, f7⟩
    refine y_ixL r70 r71 fun w0 hw0 _ => ?_
    obtain ⟨w0, rfl, hl0, hn0⟩ : ∃ z, w0 = .str z ∧ Low z ∧ 1 ≤ z.length ∧ z.length ≤ 16 := by
      simp only [List.mem_cons, List.mem_nil_iff, or_false] at hw0
      rcases hw0 with rfl | rfl | rfl | rfl | rfl | rfl
      · exact ⟨_, rfl, hbl, by omega⟩
      · exact ⟨_, rfl, hbl.app hz1, by rw [len_app]; omega⟩
      · exact ⟨_, rfl, hz1.app hbl, by rw [len_app]; omega⟩
      · exact ⟨_, rfl, hz1, by omega⟩
      · exact ⟨_, rfl, (hbl.app hz1).app hz1, by rw [len_app, len_app]; omega⟩
      · exact ⟨_, rfl, ho.1, by omega⟩
    walk_at "wp"
    refine ⟨_, rfl, ?_⟩
    refine y_slS (by rw [sizeL]; omega) ?_
    have hw1 : WordL (cutS w0 none (some ((8 : Nat) : Int))) := ⟨hl0.take 8, by rw [len_take]; omega, by rw [len_take]; omega⟩
    generalize cutS w0 none (some 8) = w1 at hw1 ⊢
    have hf7 : S7[f]? = some (.lst (ws.map .str)) := f7.get (f6.get (f5.get hf4 (by simp; omega)) (by simp; omega)) (by simp; omega)
    have t7 : Tape n (b + 210 + 90 * (ws.length + 1)) S7 := t7.mono (by omega)
    have f7 : Fr [n] S S7 := f4.trans (f5.trans (f6.trans f7))
    clear hw0 hz1 hz2 ho t6 t5 f5 f6
    walk_at "wp"
    refine ⟨_, rfl, ?_⟩
    refine w_loop (fun us d S8 => S8 = S7 ∧ ∃ (P rest : List Nat) (w : Str) (x6 x7 x8 x10 : Option U), us = rest.map (fun c => .str ⟨#[c]⟩) ∧ P ++ rest = lettersL ∧ (w ∉ ws ++ w7 ∨ ∀ c ∈ P, some c ∈ (ws ++ w7).map lastS) ∧ d = [some (.loc n), some (.int m), some (.str "abcdefghijklmnopqrstuvwxyz"), some (.lst (ownW.map .str)), some (.str base), some (.loc f), x6, x7, x8, some (.str w), x10] ∧ WordL w) ?_ ?_ _ _ _ ?_
    · rintro u us _ _ ⟨rfl, P, rest, w, x6, x7, x8, x10, e, hP, hbad, rfl, hw2⟩
      cases rest with
      | nil => cases e
      | cons c rest =>
      cases e
      have hcl : c ∈ lettersL := by rw [← hP]; simp
      have hc1 : Low ⟨#[c]⟩ := letters_low.one hcl
      have hc2 : Str.length ⟨#[c]⟩ = 1 := rfl
      have hP2 : (P ++ [c]) ++ rest = lettersL := by rw [List.append_assoc]; exact hP
      refine ⟨_, rfl, ?_⟩
      refine w_ifP (fun t => t = decide (w ∈ ws ++ w7)) ?_ (fun hq => ?_) (fun hq => ?_)
      · walk_at "wp"
        refine y_inL hf7 ?_
        walk_at "wp"
        by_cases q1 : w ∈ ws
        · rw [decide_eq_true q1]
          exact ⟨rfl, by rw [decide_eq_true (List.mem_append.mpr (.inl q1))]⟩
        · rw [decide_eq_false q1]
          show Y _ _
          walk_at "wp"
          refine y_inT w7 rfl ?_
          walk_at "wp"
          refine ⟨rfl, ?_⟩
          congr 1
          rw [List.mem_append]
          simp [q1]
      · walk_at "wp"
        refine ⟨_, rfl, ?_⟩
        refine y_slS (by rw [sizeL]; have := hw2.2.2; omega) ?_
        have h3 : Low (cutS w none (some ((7 : Nat) : Int)) ++ ⟨#[c]⟩) := (hw2.1.take 7).app hc1
        have h4 : (cutS w none (some ((7 : Nat) : Int)) ++ ⟨#[c]⟩).length = min 7 w.length + 1 := by rw [len_app, len_take, hc2]
        have h5 : (cutS w none (some ((7 : Nat) : Int))).length ≤ 7 := by rw [len_take]; omega
        walk_at "wp"
        refine y_addS (by rw [sizeL, hc2]; exact Nat.le_trans (Nat.add_le_add_right h5 1) (by decide)) ?_
        refine ⟨rfl, P ++ [c], rest, _, _, _, _, _, rfl, hP2, ?_, rfl, h3, by rw [show (cutS w none (some 7) ++ ⟨#[c]⟩).length = _ from h4]; omega, by rw [show (cutS w none (some 7) ++ ⟨#[c]⟩).length = _ from h4]; omega⟩
        by_cases q2 : (cutS w none (some 7) ++ ⟨#[c]⟩) ∈ ws ++ w7
        · refine .inr fun c' hc' => ?_
          rcases List.mem_append.mp hc' with hc' | hc'
          · rcases hbad with hbad | hbad
            · exact absurd (of_decide_eq_true hq.symm) hbad
            · exact hbad c' hc'
          · rw [List.mem_singleton.mp hc']
            exact List.mem_map.mpr ⟨_, q2, last_app _ c⟩
        · exact .inl q2
      · walk_at "wp"
        exact ⟨rfl, P ++ [c], rest, _, _, _, _, _, rfl, hP2, .inl (of_decide_eq_false hq.symm), rfl, hw2⟩
    · rintro d _ ⟨rfl, P, rest, w, x6, x7, x8, x10, e, hP, hbad, rfl, hw2⟩
      have hgood : w ∉ ws ++ w7 := by
        rcases hbad with hbad | hbad
        · exact hbad
        · cases rest with
          | cons c rest => cases e
          | nil =>
            rw [List.append_nil] at hP
            subst hP
            exact absurd hbad (not_all (by rw [List.length_append, show w7.length = 7 from rfl]; omega))
      have hg1 : w ∉ ws := fun q => hgood (List.mem_append.mpr (.inl q))
      have hg2 : w ∉ w7 := fun q => hgood (List.mem_append.mpr (.inr q))
      walk_at "wp"
      refine ⟨ty_list hf7, ?_⟩
      walk_at "wp"
      refine y_app hf7 (by rw [List.length_map, sizeL]; omega) ?_
      refine ⟨ws ++ [w], _, _, _, _, _, rfl, by rw [List.length_append, List.length_singleton]; omega, fun v hv => (List.mem_append.mp hv).elim (hw v) (fun h => by rw [List.mem_singleton.mp h]; exact ⟨hw2, hg2⟩), List.nodup_append.mpr ⟨hnd, List.pairwise_singleton _ _, fun a ha b hb e => hg1 (by rw [← List.mem_singleton.mp hb, ← e]; exact ha)⟩, ?_, ?_, f7.setNew hfs⟩
      · rw [List.length_append, List.length_singleton]
        exact t7.fr (ms := [f]) (Fr.set (by simp)) (by simp; omega)
      · rw [List.map_append]
        exact List.getElem?_set_self (List.getElem?_eq_some_iff.mp hf7).1
    · exact ⟨rfl, [], lettersL, w1, _, _, _, _, rfl, rfl, .inr fun c hc => (by cases hc), rfl, hw1⟩
  · rintro d S4 ⟨ws, x6, x7, x8, x9, x10, rfl, hc, hw, hnd, t4, hf4, f4⟩
    walk_at "wp"
    refine ⟨f, _, rfl, hf4, ws, rfl, by simp only [List.length_nil] at hc; omega, hw, hnd, ?_, f4.setNew hfs⟩
    exact (t4.fr (ms := [f]) (Fr.set (by simp)) (by simp; omega)).mono (by simp only [List.length_nil] at hc; omega)
  · exact ⟨[], none, none, none, none, none, rfl, by rw [rng_len]; simp, (by intro w h; cases h), .nil, t3.mono (by simp only [List.length_nil]; omega), hf, f3⟩
theorem tape {k : Nat} (ns : List Int) (hn : ns.length ≤ 63) (S : Sto) : Y (call (k + 1) i_law_tape [.frz (ns.map .int)] S) fun u S' => u = .loc S.length ∧ Tape S.length 0 S' ∧ S'.length = S.length + 1 := by
  refine y_run ?_
  show WS (b_law_tape (call k) [some (.frz (ns.map .int))] S) _
  unfold b_law_tape
  walk_at "wp"
  refine Y.of (show dDisp _ _ _ = .ok ([.inr "cells", .inr "spot", .inr "left"], [.lst (cutU (ns.map .int) none (some 63)), .int 0, .int 0]) S from rfl) ?_
  refine ⟨rfl, ⟨ns, 0, 0, ?_, hn, by decide, by decide, by decide⟩, by simp⟩
  rw [show cutU (ns.map U.int) none (some 63) = ns.map .int from by rw [show (63 : Int) = ((63 : Nat) : Int) from rfl, cut_pre, List.take_of_length_le (by rw [List.length_map]; exact hn)]]
  exact sto_snoc
theorem keysS_dz : ∀ zs : List Str, keysS (dz zs) = some zs
  | [] => rfl
  | z :: zs => by
    show (keysS (dz zs)).map (z :: ·) = _
    rw [keysS_dz zs]
    rfl
theorem y_sortRowW {a : U} {r : TRow} {S : Sto} {QA : List U → Sto → Prop} (ha : RowAt a S r) (hl : r.1.length ≤ 1000000) (h : QA ((sortT r.1).map .str) S) : Y (sortedW [a] S) QA := by
  have e : sortDicW [a] S = DL.guard (decide (r.1.length ≤ 1000000)) (R.ok ((sortT r.1).map U.str) S) := by
    unfold sortDicW
    have ha : dictOf a S = some (dz r.1, r.1.map (bls r.2)) := ha
    simp only [ha, keysS_dz]
  unfold sortedW
  refine y_alt ?_
  rw [e]
  exact y_guard (decide_eq_true hl) ⟨h⟩
abbrev rowU (zs : List Str) (ρ : Str → Bool) : U := .dic (dz zs) (zs.map (bls ρ))
theorem fold_app : ∀ {l zs : List Str}, (zs ++ l).Nodup → l.foldl addS zs = zs ++ l
  | [], zs, _ => (List.append_nil _).symm
  | x :: l, zs, h => by
    have hx : x ∉ zs := fun z => (List.nodup_append.mp h).2.2 x z x List.mem_cons_self rfl
    show l.foldl addS (addS zs x) = _
    rw [show addS zs x = zs ++ [x] from if_neg hx, fold_app (by rw [List.append_assoc]; exact h), List.append_assoc]
    rfl
theorem fold_nd {l : List Str} (h : l.Nodup) : l.foldl addS [] = l := fold_app h
theorem lv_tail (o : Op) (va vb : Bool) (x y : U) (c : Nat → List U → Sto → R U) (S : Sto) : ((fSeq (fIfS (fB (f2 eqU (fVar 2) (fC (.str "not")))) (fRet (fNotV (f2 ixU (fVar 3) (fC (.int 0))))) fNop) (fSeq (fIfS (fB (f2 eqU (fVar 2) (fC (.str "and")))) (fRet (fAndV (f2 ixU (fVar 3) (fC (.int 0))) (f2 ixU (fVar 3) (fC (.int 1))))) fNop) (fSeq (fIfS (fB (f2 eqU (fVar 2) (fC (.str "or")))) (fRet (fOrV (f2 ixU (fVar 3) (fC (.int 0))) (f2 ixU (fVar 3) (fC (.int 1))))) fNop) (fSeq (fIfS (fB (f2 eqU (fVar 2) (fC (.str "if")))) (fRet (fOrV (f2 ixU (fVar 3) (fC (.int 1))) (fNotV (f2 ixU (fVar 3) (fC (.int 0)))))) fNop) (fSeq (fIfS (fB (f2 eqU (fVar 2) (fC (.str "same")))) (fRet (f2 eqU (f2 ixU (fVar 3) (fC (.int 0))) (f2 ixU (fVar 3) (fC (.int 1))))) fNop) (fRet (f2 eqU (fVar 2) (fC (.str "yes")))))))))) [some x, some y, some (.str o.s), some (.lst [.bl va, .bl vb]), none] S = .ok (.rt (.bl (o.ev va vb))) S := by
  cases o <;> cases va <;> cases vb <;> kernel_rfl
theorem law_value {zs : List Str} {ρ : Str → Bool} : ∀ (x : Say) (m : Nat) {S : Sto}, x.deep ≤ m → (∀ w ∈ x.names, w ∈ zs) → Y (call m i_law_value [x.u, rowU zs ρ] S) fun u S' => u = .bl (x.ev ρ) ∧ S' = S
  | x, 0, S, hd, hz => absurd hd (by have := x.deep_pos; omega)
  | .yes, m + 1, S, hd, hz => by
    rw [show call (m + 1) i_law_value [Say.u .yes, rowU zs ρ] S = .ok (.bl true) S from by kernel_rfl]
    exact y_ok ⟨rfl, rfl⟩
  | .no, m + 1, S, hd, hz => by
    rw [show call (m + 1) i_law_value [Say.u .no, rowU zs ρ] S = .ok (.bl false) S from by kernel_rfl]
    exact y_ok ⟨rfl, rfl⟩
  | .name w, m + 1, S, hd, hz => by
    refine y_run ?_
    show WS (b_law_value (call m) [some (Say.u (.name w)), some (rowU zs ρ), none, none, none] S) _
    unfold b_law_value
    walk_at "wp"
    refine y_ix (u := .str "name") rfl ?_
    walk_at "wp"
    refine w_if ?_
    walk_at "wp"
    refine ite_b (fun _ => ?_) (fun c => absurd c (by decide))
    walk_at "wp"
    refine y_ix (u := .str w) rfl ?_
    refine y_ixZ (hz w List.mem_cons_self) ?_
    exact ⟨rfl, rfl⟩
  | .neg a, m + 1, S, hd, hz => by
    have ha := Y.eq (law_value (ρ := ρ) a m (S := S) (by have : a.deep + 1 ≤ m + 1 := hd; omega) hz)
    refine y_run ?_
    show WS (b_law_value (call m) [some (Say.u (.neg a)), some (rowU zs ρ), none, none, none] S) _
    unfold b_law_value
    walk_at "wp"
    refine y_ix (u := .str "not") rfl ?_
    walk_at "wp"
    refine w_if ?_
    walk_at "wp"
    refine ite_b (fun c => absurd c (by decide)) (fun _ => ?_)
    walk_at "wp"
    refine ⟨_, rfl, ?_⟩
    walk_at "wp"
    refine y_slT ?_
    rw [cut_one]
    refine ⟨_, rfl, ?_⟩
    refine y_cc rfl (by decide) ?_
    walk_at "wp"
    refine ⟨rfl, Y.of ha ?_⟩
    walk_at "wp"
    refine w_if ?_
    walk_at "wp"
    refine ite_b (fun _ => ?_) (fun c => absurd c (by decide))
    walk_at "wp"
    refine y_ix (u := .bl (a.ev ρ)) rfl ?_
    walk_at "wp"
    exact ⟨rfl, rfl⟩
  | .bin o a b, m + 1, S, hd, hz => by
    have hd : max a.deep b.deep + 1 ≤ m + 1 := hd
    have ha := Y.eq (law_value (ρ := ρ) a m (S := S) (by omega) fun w hw => hz w (List.mem_append_left _ hw))
    have hb := Y.eq (law_value (ρ := ρ) b m (S := S) (by omega) fun w hw => hz w (List.mem_append_right _ hw))
    refine y_run ?_
    show WS (b_law_value (call m) [some (Say.u (.bin o a b)), some (rowU zs ρ), none, none, none] S) _
    unfold b_law_value
    walk_at "wp"
    refine y_ix (u := .str o.s) rfl ?_
    walk_at "wp"
    refine w_if ?_
    walk_at "wp"
    refine ite_b (fun c => absurd c (by cases o <;> decide)) (fun _ => ?_)
    walk_at "wp"
    refine ⟨_, rfl, ?_⟩
    walk_at "wp"
    refine y_slT ?_
    rw [cut_one]
    refine ⟨_, rfl, ?_⟩
    refine y_cc rfl (by decide) ?_
    walk_at "wp"
    refine ⟨rfl, Y.of ha ?_⟩
    refine y_cc rfl (show 1 < sizeLine by decide) ?_
    walk_at "wp"
    refine ⟨rfl, Y.of hb ?_⟩
    with_reducible refine y_cn ?_
    exact WS.of (D := { nx := fun _ S1 => (fun u S' => u = U.bl (Say.ev ρ (.bin o a b)) ∧ S' = S) U.non S1, rt := fun u S' => u = .bl (Say.ev ρ (.bin o a b)) ∧ S' = S }) (lv_tail o (a.ev ρ) (b.ev ρ) _ _ (call m) S) ⟨⟨rfl, rfl⟩⟩
theorem y_shrI {i j : Int} {S : Sto} {Q : U → Sto → Prop} (h0 : 0 ≤ j) (h : Q (.int (i / 2 ^ j.toNat)) S) : Y (shrU (.int i) (.int j) S) Q := y_guard (decide_eq_true h0) ⟨h⟩
theorem y_andI {i j : Int} {S : Sto} {Q : U → Sto → Prop} (h : Q (.int (Builtin.bitAnd i j)) S) : Y (andU (.int i) (.int j) S) Q := ⟨h⟩
theorem bit_one (a : Nat) : Builtin.bitAnd (a : Int) 1 = ((a % 2 : Nat) : Int) := by
  show ((a &&& 1 : Nat) : Int) = _
  rw [Nat.and_one_is_mod]
def bitsT : List Str → Nat → Str → Bool
  | [], _, _ => false
  | w :: ws, i, x => if x = w then decide (i % 2 = 1) else bitsT ws (i / 2) x
theorem bitsT_at : ∀ {ws : List Str} {i k : Nat} {w : Str}, ws.Nodup → ws[k]? = some w → bitsT ws i w = decide (i / 2 ^ k % 2 = 1)
  | [], i, k, w, _, h => by cases h
  | v :: ws, i, 0, w, nd, h => by
    rw [List.getElem?_cons_zero] at h
    injection h with h
    subst h
    show (if v = v then decide (i % 2 = 1) else _) = _
    rw [if_pos rfl, Nat.pow_zero, Nat.div_one]
  | v :: ws, i, k + 1, w, nd, h => by
    rw [List.getElem?_cons_succ] at h
    have nd := List.nodup_cons.mp nd
    have hne : w ≠ v := fun e => nd.1 (by rw [← e]; exact List.mem_of_getElem? h)
    show (if w = v then _ else bitsT ws (i / 2) w) = _
    rw [if_neg hne, bitsT_at nd.2 h, Nat.div_div_eq_div_mul, Nat.pow_succ, Nat.mul_comm 2]
def numT (ρ : Str → Bool) : List Str → Nat
  | [] => 0
  | w :: ws => (if ρ w then 1 else 0) + 2 * numT ρ ws
theorem numT_lt (ρ : Str → Bool) : ∀ ws : List Str, numT ρ ws < 2 ^ ws.length
  | [] => Nat.one_pos
  | w :: ws => by
    have := numT_lt ρ ws
    show (if ρ w then 1 else 0) + 2 * numT ρ ws < 2 ^ (ws.length + 1)
    rw [Nat.pow_succ]
    split <;> omega
theorem numT_bits (ρ : Str → Bool) : ∀ {ws : List Str} {x : Str}, x ∈ ws → bitsT ws (numT ρ ws) x = ρ x
  | [], x, h => by cases h
  | w :: ws, x, h => by
    show (if x = w then decide (((if ρ w then 1 else 0) + 2 * numT ρ ws) % 2 = 1) else bitsT ws (((if ρ w then 1 else 0) + 2 * numT ρ ws) / 2) x) = ρ x
    by_cases e : x = w
    · rw [if_pos e, e]
      cases ρ w
      · exact decide_eq_false (by rw [if_neg (by decide)]; omega)
      · exact decide_eq_true (by rw [if_pos rfl]; omega)
    · rw [if_neg e, show ((if ρ w then 1 else 0) + 2 * numT ρ ws) / 2 = numT ρ ws by split <;> omega]
      exact numT_bits ρ ((List.mem_cons.mp h).resolve_left e)
theorem law_row {k i : Nat} {ws : List Str} {S : Sto} (nd : ws.Nodup) (hl : ws.length ≤ 1000) : Y (call (k + 1) i_law_row [.lst (ws.map .str), .int (i : Int)] S) fun u S' => u = rowU ws (bitsT ws i) ∧ S' = S := by
  refine y_run ?_
  show WS (b_law_row (call k) [some (.lst (ws.map .str)), some (.int (i : Int)), none] S) _
  unfold b_law_row
  walk_at "wp"
  refine y_lenS ?_
  walk_at "wp"
  refine ⟨ws.length, rfl, by omega, by omega, ?_⟩
  have hin : ∀ j ∈ List.range ws.length, j < ws.length := fun j hj => List.mem_range.mp hj
  refine y_compX (fun (j : Nat) => U.int (0 + (j : Int) * 1)) (fun (j : Nat) => .tup [.str (ws.getD j ""), bls (bitsT ws i) (ws.getD j "")]) (List.range ws.length) [] (fun j hj => ?_) (by rw [List.length_range, List.length_nil, sizeL]; omega) ?_
  · have hjl := hin j hj
    have hg : ws[j]? = some (ws.getD j "") := by rw [List.getD_eq_getElem?_getD, List.getElem?_eq_getElem hjl]; rfl
    refine ⟨_, rfl, ?_⟩
    rw [show (0 : Int) + (j : Int) * 1 = (j : Int) by omega]
    walk_at "wp"
    refine y_ixLst (u := .str (ws.getD j "")) (by rw [List.getElem?_map, hg]; rfl) ?_
    walk_at "wp"
    refine y_shrI (by omega) ?_
    walk_at "wp"
    refine y_andI ?_
    walk_at "wp"
    refine ⟨?_, rfl⟩
    rw [Int.toNat_natCast, show (i : Int) / 2 ^ j = ((i / 2 ^ j : Nat) : Int) by rw [Int.natCast_ediv, Int.natCast_pow]; rfl, bit_one]
    have e := bitsT_at (i := i) nd hg
    generalize ws.getD j "" = w at e ⊢
    unfold bls
    rw [e]
    congr 4
    refine decide_eq_decide.mpr ?_
    omega
  rw [List.nil_append]
  have e : (List.range ws.length).map (fun (j : Nat) => U.tup [.str (ws.getD j ""), bls (bitsT ws i) (ws.getD j "")]) = ws.map fun w => U.tup [.str w, bls (bitsT ws i) w] := by
    refine List.ext_getElem (by rw [List.length_map, List.length_map, List.length_range]) fun j h1 h2 => ?_
    rw [List.length_map] at h2
    rw [List.getElem_map, List.getElem_map, List.getElem_range, List.getD_eq_getElem?_getD, List.getElem?_eq_getElem h2]
    rfl
  rw [e]
  walk_at "wp"
  refine y_dictP (l := ws) (g := bls (bitsT ws i)) ?_
  rw [fold_nd nd]
  exact ⟨rfl, rfl⟩
abbrev trues (zs : List Str) : List U := zs.map fun _ => .bl true
theorem collect {f : Nat} : ∀ (x : Say) (m : Nat) {zs : List Str} {S : Sto}, x.deep ≤ m → S[f]? = some (.dic (dz zs) (trues zs)) → zs.length + x.parts < 1000000 →
    Y (call m i_collect [x.u, .loc f] S) fun u S' => S'[f]? = some (.dic (dz (x.names.foldl addS zs)) (trues (x.names.foldl addS zs))) ∧ S'.length = S.length ∧ Fr [f] S S'
  | x, 0, zs, S, hd, hf, hl => absurd hd (by have := x.deep_pos; omega)
  | .yes, m + 1, zs, S, hd, hf, hl => by
    refine y_run ?_
    show WS (b_collect (call m) [some (Say.u .yes), some (.loc f), none] S) _
    unfold b_collect
    refine w_if ?_
    walk_at "wp"
    refine y_ix (u := .str "yes") rfl ?_
    walk_at "wp"
    refine ite_b (fun c => absurd c (by decide)) (fun _ => ?_)
    walk_at "wp"
    refine ⟨_, rfl, ?_⟩
    walk_at "wp"
    refine y_slT ?_
    rw [cut_one]
    refine ⟨_, rfl, w_ln ?_⟩
    exact ⟨hf, rfl, Fr.refl _ _⟩
  | .no, m + 1, zs, S, hd, hf, hl => by
    refine y_run ?_
    show WS (b_collect (call m) [some (Say.u .no), some (.loc f), none] S) _
    unfold b_collect
    refine w_if ?_
    walk_at "wp"
    refine y_ix (u := .str "no") rfl ?_
    walk_at "wp"
    refine ite_b (fun c => absurd c (by decide)) (fun _ => ?_)
    walk_at "wp"
    refine ⟨_, rfl, ?_⟩
    walk_at "wp"
    refine y_slT ?_
    rw [cut_one]
    refine ⟨_, rfl, w_ln ?_⟩
    exact ⟨hf, rfl, Fr.refl _ _⟩
  | .name w, m + 1, zs, S, hd, hf, hl => by
    refine y_run ?_
    show WS (b_collect (call m) [some (Say.u (.name w)), some (.loc f), none] S) _
    unfold b_collect
    refine w_if ?_
    walk_at "wp"
    refine y_ix (u := .str "name") rfl ?_
    walk_at "wp"
    refine ite_b (fun _ => ?_) (fun c => absurd c (by decide))
    walk_at "wp"
    refine y_ix (u := .str w) rfl ?_
    refine ⟨_, st_z (g := fun _ => .bl true) hf (by rw [sizeL]; omega), ?_⟩
    exact ⟨List.getElem?_set_self (List.getElem?_eq_some_iff.mp hf).1, List.length_set, Fr.set (by simp)⟩
  | .neg a, m + 1, zs, S, hd, hf, hl => by
    refine y_run ?_
    show WS (b_collect (call m) [some (Say.u (.neg a)), some (.loc f), none] S) _
    unfold b_collect
    refine w_if ?_
    walk_at "wp"
    refine y_ix (u := .str "not") rfl ?_
    walk_at "wp"
    refine ite_b (fun c => absurd c (by decide)) (fun _ => ?_)
    walk_at "wp"
    refine ⟨_, rfl, ?_⟩
    walk_at "wp"
    refine y_slT ?_
    rw [cut_one]
    refine ⟨_, rfl, w_lc rfl ?_⟩
    walk_at "wp"
    refine ⟨rfl, (collect a m (by have : a.deep + 1 ≤ m + 1 := hd; omega) hf (by have : zs.length + (a.parts + 1) < 1000000 := hl; omega)).mono ?_⟩
    rintro _ S1 ⟨h1, h2, h3⟩
    walk_at "wp"
    exact ⟨h1, h2, h3⟩
  | .bin o a b, m + 1, zs, S, hd, hf, hl => by
    have hd : max a.deep b.deep + 1 ≤ m + 1 := hd
    have hl : zs.length + (a.parts + b.parts + 1) < 1000000 := hl
    refine y_run ?_
    show WS (b_collect (call m) [some (Say.u (.bin o a b)), some (.loc f), none] S) _
    unfold b_collect
    refine w_if ?_
    walk_at "wp"
    refine y_ix (u := .str o.s) rfl ?_
    walk_at "wp"
    refine ite_b (fun c => absurd c (by cases o <;> decide)) (fun _ => ?_)
    walk_at "wp"
    refine ⟨_, rfl, ?_⟩
    walk_at "wp"
    refine y_slT ?_
    rw [cut_one]
    refine ⟨_, rfl, w_lc rfl ?_⟩
    walk_at "wp"
    refine ⟨rfl, (collect a m (by omega) hf (by omega)).mono ?_⟩
    rintro _ S1 ⟨h1, h2, h3⟩
    with_reducible refine w_lc rfl ?_
    walk_at "wp"
    have hl2 := fold_len (l := a.names) (zs := zs)
    have hl3 := a.names_len
    refine ⟨rfl, (collect b m (by omega) h1 (by omega)).mono ?_⟩
    rintro _ S2 ⟨k1, k2, k3⟩
    walk_at "wp"
    refine ⟨?_, k2.trans h2, h3.trans k3⟩
    show S2[f]? = some (.dic (dz ((a.names ++ b.names).foldl addS zs)) (trues ((a.names ++ b.names).foldl addS zs)))
    rw [List.foldl_append]
    exact k1
abbrev snm (x : Say) : List Str := sortT (nubT x.names)
theorem rowT_at {f : Nat} {zs : List Str} {S : Sto} (h : S[f]? = some (.dic (dz zs) (trues zs))) : S[f]? = some (rowO (zs, fun _ => true)) := h
theorem names_of (x : Say) (m : Nat) {S : Sto} (hd : x.deep ≤ m) (hl : x.parts < 900000) : Y (call (m + 1) i_names_of [x.u] S) fun u S' => u = .lst ((snm x).map .str) ∧ Fr [] S S' := by
  refine y_run ?_
  show WS (b_names_of (call m) [some x.u, none] S) _
  unfold b_names_of
  refine w_seq (w_set (y_dlocG (y_ok fun n S1 hn h1 l1 f1 => ?_)))
  walk_at "wp"
  refine ⟨rfl, (collect (zs := []) x m hd h1 (by rw [List.length_nil]; omega)).mono ?_⟩
  rintro _ S2 ⟨h2, l2, f2⟩
  have hz := fold_len (l := x.names) (zs := [])
  have hx := x.names_len
  rw [List.length_nil] at hz
  refine w_ret (y_val ?_)
  walk_at "wp"
  refine y_sortRowW (r := (x.names.foldl addS [], fun _ => true)) (rowAt_loc (rowT_at h2)) (by show (x.names.foldl addS []).length ≤ _; omega) ?_
  refine ⟨?_, ⟨by omega, fun j hj _ => ?_⟩⟩
  · rw [show sortT ((x.names.foldl addS [] : List Str), (fun _ => true : Str → Bool)).1 = sortT (nubT x.names) from sort_nub (fold_nodup List.nodup_nil) fun z => by rw [fold_mem]; simp]
  · rw [f2.2 j (by omega) (by simp; omega), f1.2 j hj (by simp)]
def rowN (p : Nat → Bool) : Nat → Nat
  | 0 => 0
  | n + 1 => rowN p n + if p n = true then 2 ^ n else 0
theorem rowN_lt (p : Nat → Bool) : ∀ n, rowN p n < 2 ^ n
  | 0 => Nat.one_pos
  | n + 1 => by
    have := rowN_lt p n
    show rowN p n + (if p n = true then 2 ^ n else 0) < 2 ^ (n + 1)
    rw [Nat.pow_succ]
    split <;> omega
theorem rowN_bit (p : Nat → Bool) : ∀ (n r : Nat), (rowN p n).testBit r = (decide (r < n) && p r)
  | 0, r => by
    show (0 : Nat).testBit r = _
    rw [Nat.zero_testBit, decide_eq_false (Nat.not_lt_zero r)]
    rfl
  | n + 1, r => by
    have ih := rowN_bit p n r
    have hl := rowN_lt p n
    show (rowN p n + if p n = true then 2 ^ n else 0).testBit r = _
    by_cases hp : p n = true
    · rw [if_pos hp, Nat.add_comm]
      have h2 := Nat.two_pow_add_eq_or_of_lt hl 1
      rw [Nat.mul_one] at h2
      rw [h2, Nat.testBit_or, ih, Nat.testBit_two_pow]
      by_cases e : n = r
      · subst e
        rw [decide_eq_true rfl, decide_eq_true (Nat.lt_succ_self n), hp]
        rfl
      · rw [decide_eq_false e, Bool.false_or]
        by_cases q : r < n
        · rw [decide_eq_true q, decide_eq_true (Nat.lt_succ_of_lt q)]
        · rw [decide_eq_false q, decide_eq_false (by omega)]
    · rw [if_neg hp, Nat.add_zero, ih]
      by_cases e : n = r
      · subst e
        have hp : p n = false := by simpa using hp
        rw [hp, Bool.and_false, Bool.and_false]
      · by_cases q : r < n
        · rw [decide_eq_true q, decide_eq_true (Nat.lt_succ_of_lt q)]
        · rw [decide_eq_false q, decide_eq_false (by omega)]
theorem rowN_or (p q : Nat → Bool) (n : Nat) : rowN p n ||| rowN q n = rowN (fun r => p r || q r) n := by
  refine Nat.eq_of_testBit_eq fun r => ?_
  rw [Nat.testBit_or, rowN_bit, rowN_bit, rowN_bit, Bool.and_or_distrib_left]
theorem rowN_and (p q : Nat → Bool) (n : Nat) : rowN p n &&& rowN q n = rowN (fun r => p r && q r) n := by
  refine Nat.eq_of_testBit_eq fun r => ?_
  rw [Nat.testBit_and, rowN_bit, rowN_bit, rowN_bit]
  cases decide (r < n) <;> simp
theorem rowN_not (p : Nat → Bool) : ∀ n, rowN p n + rowN (fun r => !p r) n = rowN (fun _ => true) n
  | 0 => rfl
  | n + 1 => by
    have ih := rowN_not p n
    show (rowN p n + if p n = true then 2 ^ n else 0) + (rowN (fun r => !p r) n + if (!p n) = true then 2 ^ n else 0) = rowN (fun _ => true) n + 2 ^ n
    cases p n with
    | true => rw [if_pos rfl, if_neg (by decide)]; omega
    | false => rw [if_neg (by decide), if_pos (by decide)]; omega
theorem rowN_full : ∀ n, rowN (fun _ => true) n = 2 ^ n - 1
  | 0 => rfl
  | n + 1 => by
    have := rowN_full n
    have h1 : 0 < 2 ^ n := Nat.two_pow_pos n
    show rowN (fun _ => true) n + 2 ^ n = 2 ^ (n + 1) - 1
    rw [Nat.pow_succ]
    omega
theorem rowN_none {p : Nat → Bool} : ∀ {n : Nat}, (∀ r, r < n → p r = false) → rowN p n = 0
  | 0, _ => rfl
  | n + 1, h => by
    show rowN p n + (if p n = true then 2 ^ n else 0) = 0
    rw [rowN_none fun r hr => h r (by omega), if_neg (by rw [h n (by omega)]; decide)]
theorem rowN_eq {p q : Nat → Bool} (h : ∀ r, p r = q r) (n : Nat) : rowN p n = rowN q n := by rw [show p = q from funext h]
theorem bit_and (a b : Nat) : Builtin.bitAnd (a : Int) (b : Int) = ((a &&& b : Nat) : Int) := by
  unfold Builtin.bitAnd
  rw [decide_eq_true (Int.natCast_nonneg a), decide_eq_true (Int.natCast_nonneg b)]
  rfl
theorem bit_not (a : Nat) : (Builtin.bitNot (Builtin.bitNot (a : Int))).toNat = a := by
  unfold Builtin.bitNot
  omega
theorem bit_or (a b : Nat) : Builtin.bitOr (a : Int) (b : Int) = ((a ||| b : Nat) : Int) := by
  have ha : ¬ (0 : Int) ≤ Builtin.bitNot (a : Int) := by unfold Builtin.bitNot; omega
  have hb : ¬ (0 : Int) ≤ Builtin.bitNot (b : Int) := by unfold Builtin.bitNot; omega
  unfold Builtin.bitOr Builtin.bitAnd
  rw [decide_eq_false ha, decide_eq_false hb]
  dsimp only
  rw [bit_not, bit_not]
  unfold Builtin.bitNot
  omega
theorem bit_xor (p : Nat → Bool) (n : Nat) : Builtin.bitXor ((rowN (fun _ => true) n : Nat) : Int) ((rowN p n : Nat) : Int) = ((rowN (fun r => !p r) n : Nat) : Int) := by
  unfold Builtin.bitXor
  rw [bit_or, bit_and, rowN_or, rowN_and]
  have h1 := rowN_not p n
  have e1 : rowN (fun r => true || p r) n = rowN (fun _ => true) n := rowN_eq (fun r => rfl) n
  have e2 : rowN (fun r => true && p r) n = rowN p n := rowN_eq (fun r => rfl) n
  rw [e1, e2]
  omega
theorem y_orI {i j : Int} {S : Sto} {Q : U → Sto → Prop} (h : Q (.int (Builtin.bitOr i j)) S) : Y (orU (.int i) (.int j) S) Q := ⟨h⟩
theorem bit_xor2 (p q : Nat → Bool) (n : Nat) : Builtin.bitXor ((rowN p n : Nat) : Int) ((rowN q n : Nat) : Int) = ((rowN (fun r => p r != q r) n : Nat) : Int) := by
  unfold Builtin.bitXor
  rw [bit_or, bit_and, rowN_or, rowN_and]
  have : ∀ n, rowN (fun r => p r || q r) n = rowN (fun r => p r && q r) n + rowN (fun r => p r != q r) n := fun n => by
    induction n with
    | zero => rfl
    | succ n ih =>
      show rowN (fun r => p r || q r) n + (if (p n || q n) = true then 2 ^ n else 0) = (rowN (fun r => p r && q r) n + if (p n && q n) = true then 2 ^ n else 0) + (rowN (fun r => p r != q r) n + if (p n != q n) = true then 2 ^ n else 0)
      rw [ih]
      cases p n <;> cases q n <;> simp <;> omega
  rw [this n]
  omega
theorem rowN_inj {p q : Nat → Bool} {n : Nat} : rowN p n = rowN q n ↔ ∀ r, r < n → p r = q r := by
  constructor
  · intro h r hr
    have h1 := rowN_bit p n r
    rw [h, rowN_bit, decide_eq_true hr] at h1
    simpa using h1.symm
  · intro h
    refine Nat.eq_of_testBit_eq fun r => ?_
    rw [rowN_bit, rowN_bit]
    by_cases hr : r < n
    · rw [h r hr]
    · rw [decide_eq_false hr]; rfl
def NoN (w : Str) : Exc := ⟨"NoName", "name", .str w⟩
theorem y_ninLs {us : List U} (ws : List Str) {w : Str} {S : Sto} {Q : U → Sto → Prop} (e : us = ws.map .str) (h : Q (.bl (!decide (w ∈ ws))) S) : Y (ninU (.str w) (.lst us) S) Q := by
  subst e
  have e : inB (.str w) (.lst (ws.map .str)) S = some (decide (w ∈ ws)) := by
    unfold inB dictOf flatL DL.listOf listM
    dsimp only
    rw [all_flat, any_str]
    rfl
  unfold ninU
  rw [e]
  exact ⟨h⟩
theorem y_shlM {k : Nat} {S : Sto} {Q : U → Sto → Prop} (hk : k ≤ 100000) (h : Q (.int ((2 ^ k : Nat) : Int)) S) : Y (shlU (.int 1) (.int (k : Int)) S) Q := by
  unfold shlU
  refine y_guard (by rw [decide_eq_true (rfl : (1 : Int) = 1), decide_eq_true (by omega : (0 : Int) ≤ (k : Int)), decide_eq_true (by omega : (k : Int) ≤ 100000000)]; rfl) ⟨?_⟩
  show Q (.int (2 ^ k)) S
  rw [show (2 : Int) ^ k = ((2 ^ k : Nat) : Int) by rw [Int.natCast_pow]; rfl]
  exact h
theorem y_shlK {a k m : Nat} {S : Sto} {Q : U → Sto → Prop} (ha : a < 2 ^ m) (hk : m + k ≤ 100000) (h : Q (.int ((a * 2 ^ k : Nat) : Int)) S) : Y (shlGU (.int (a : Int)) (.int (k : Int)) S) Q := by
  have hb : Builtin.Int.intBits (a : Int) ≤ m := intBits_le_iff.mpr ha
  unfold shlGU
  refine y_guard (by rw [decide_eq_true (by omega : (0 : Int) ≤ (k : Int)), decide_eq_true (by omega)]; rfl) ⟨?_⟩
  show Q (.int ((a : Int) * 2 ^ k)) S
  rw [show (a : Int) * 2 ^ k = ((a * 2 ^ k : Nat) : Int) by rw [Int.natCast_mul, Int.natCast_pow]; rfl]
  exact h
def bp (p : Nat) (r : Nat) : Bool := r.testBit p
theorem tn_start (p : Nat) : (2 ^ 2 ^ p - 1) * 2 ^ 2 ^ p = rowN (bp p) (2 ^ (p + 1)) := by
  refine Nat.eq_of_testBit_eq fun r => ?_
  rw [rowN_bit, Nat.testBit_mul_two_pow, Nat.testBit_two_pow_sub_one, Nat.pow_succ]
  unfold bp
  rw [Nat.testBit_eq_decide_div_mod_eq]
  have hs : 0 < 2 ^ p := Nat.two_pow_pos p
  by_cases h1 : r < 2 ^ p
  · rw [Nat.div_eq_of_lt h1, decide_eq_false (by omega : ¬ 2 ^ p ≤ r)]
    simp
  · by_cases h2 : r < 2 ^ p * 2
    · rw [Nat.div_eq_of_lt_le (k := 1) (by omega) (by omega), decide_eq_true (by omega : 2 ^ p ≤ r), decide_eq_true h2, decide_eq_true (by omega : r - 2 ^ p < 2 ^ p)]
      rfl
    · rw [decide_eq_false h2, decide_eq_false (by omega : ¬ r - 2 ^ p < 2 ^ p), Bool.and_false]
      rfl
theorem tn_step {p j : Nat} (h : p < j) : rowN (bp p) (2 ^ j) ||| rowN (bp p) (2 ^ j) * 2 ^ 2 ^ j = rowN (bp p) (2 ^ (j + 1)) := by
  refine Nat.eq_of_testBit_eq fun r => ?_
  rw [Nat.testBit_or, Nat.testBit_mul_two_pow, rowN_bit, rowN_bit, rowN_bit, Nat.pow_succ]
  by_cases h1 : r < 2 ^ j
  · rw [decide_eq_true h1, decide_eq_false (by omega : ¬ 2 ^ j ≤ r), decide_eq_true (by omega : r < 2 ^ j * 2)]
    simp
  · rw [decide_eq_false h1, decide_eq_true (by omega : 2 ^ j ≤ r)]
    by_cases h2 : r < 2 ^ j * 2
    · rw [decide_eq_true h2, decide_eq_true (by omega : r - 2 ^ j < 2 ^ j)]
      have : bp p r = bp p (r - 2 ^ j) := by
        have e := Nat.testBit_two_pow_add_gt h (r - 2 ^ j)
        rw [show 2 ^ j + (r - 2 ^ j) = r by omega] at e
        exact e
      rw [this]
      simp
    · rw [decide_eq_false h2, decide_eq_false (by omega : ¬ r - 2 ^ j < 2 ^ j)]
      simp
theorem y_mulN {a b m : Nat} {S : Sto} {Q : U → Sto → Prop} (ha : a < 2 ^ m) (hb : b < 2 ^ m) (hm : m ≤ 1000) (h : Q (.int ((a * b : Nat) : Int)) S) : Y (mulU (.int (a : Int)) (.int (b : Int)) S) Q :=
  y_mulI (mul_ok (a := m) (b := m) ha hb (by omega)) (by rw [← Int.natCast_mul]; exact h)
theorem table_of_name {k p many : Nat} {S : Sto} (hp : p < many) (hm : many ≤ 14) : Y (call (k + 1) i_table_of_name [.int (p : Int), .int (many : Int)] S) fun u S' => u = .int ((rowN (bp p) (2 ^ many) : Nat) : Int) ∧ S' = S := by
  have h14 : ∀ j, j ≤ many → 2 ^ j ≤ 16384 := fun j hj => Nat.le_trans (Nat.pow_le_pow_right (by decide) (by omega : j ≤ 14)) (by decide)
  have hpp := h14 p (by omega)
  refine y_run ?_
  show WS (b_table_of_name (call k) [some (.int (p : Int)), some (.int (many : Int)), none, none, none] S) _
  unfold b_table_of_name
  refine w_seq (w_set ?_)
  walk_at "wp"
  refine y_shlM (by omega) ?_
  refine w_seq (w_set ?_)
  walk_at "wp"
  refine y_shlM (by omega) ?_
  walk_at "wp"
  have h0 : 0 < 2 ^ 2 ^ p := Nat.two_pow_pos _
  rw [show ((2 ^ 2 ^ p : Nat) : Int) - 1 = ((2 ^ 2 ^ p - 1 : Nat) : Int) by omega]
  refine y_shlK (m := 2 ^ p) (by omega) (by omega) ?_
  rw [tn_start]
  refine w_seq (w_set ?_)
  walk_at "wp"
  rw [show (2 : Int) = ((2 : Nat) : Int) from rfl]
  refine y_mulN (m := 20) (by decide) (by omega) (by decide) ?_
  rw [show 2 * 2 ^ p = 2 ^ (p + 1) by rw [Nat.pow_succ, Nat.mul_comm]]
  refine w_seq (w_while (fun m d S' => ∃ j, p < j ∧ j ≤ many ∧ m = many - j ∧ S' = S ∧ d = [some (.int (p : Int)), some (.int (many : Int)), some (.int ((2 ^ p : Nat) : Int)), some (.int ((rowN (bp p) (2 ^ j) : Nat) : Int)), some (.int ((2 ^ j : Nat) : Int))]) ?_ _ (many - (p + 1)) _ _ (by omega) ⟨p + 1, by omega, by omega, rfl, rfl, rfl⟩)
  rintro m _ S1 ⟨j, hj, hj2, rfl, hS, rfl⟩
  subst S1
  have hj14 := h14 j hj2
  walk_at "wp"
  refine y_shlM (by omega) ?_
  walk_at "wp"
  have hlt : ((2 ^ j : Nat) : Int) < ((2 ^ many : Nat) : Int) ↔ j < many := by
    rw [Int.ofNat_lt]
    exact Nat.pow_lt_pow_iff_right (by decide)
  refine ite_b (fun c => ?_) (fun c => ?_)
  · have c := hlt.mp (of_decide_eq_true c)
    refine w_seq (w_set ?_)
    walk_at "wp"
    refine y_shlK (rowN_lt _ _) (by omega) ?_
    refine y_orI ?_
    rw [bit_or, tn_step hj]
    walk_at "wp"
    refine y_mulN (m := 20) (by decide) (by omega) (by decide) ?_
    rw [show 2 * 2 ^ j = 2 ^ (j + 1) by rw [Nat.pow_succ, Nat.mul_comm]]
    exact ⟨many - (j + 1), by omega, j + 1, by omega, by omega, rfl, rfl, rfl⟩
  · have c : ¬ j < many := fun q => of_decide_eq_false c (hlt.mpr q)
    obtain rfl : j = many := by omega
    walk_at "wp"
    exact ⟨rfl, rfl⟩
theorem full_of {k many : Nat} {S : Sto} (hm : many ≤ 14) : Y (call (k + 1) i_full_of [.int (many : Int)] S) fun u S' => u = .int ((rowN (fun _ => true) (2 ^ many) : Nat) : Int) ∧ S' = S := by
  have h14 : 2 ^ many ≤ 16384 := Nat.le_trans (Nat.pow_le_pow_right (by decide) hm) (by decide)
  refine y_run ?_
  show WS (b_full_of (call k) [some (.int (many : Int))] S) _
  unfold b_full_of
  refine w_ret ?_
  walk_at "wp"
  refine y_shlM (by omega) ?_
  refine y_shlM (by omega) ?_
  walk_at "wp"
  refine ⟨?_, rfl⟩
  rw [rowN_full]
  have h0 : 0 < 2 ^ 2 ^ many := Nat.two_pow_pos _
  congr 1
  omega
abbrev tbU (f : Nat → Bool) (n : Nat) : U := .int ((rowN f n : Nat) : Int)
def Op.tab : Op → (Nat → Bool) → (Nat → Bool) → Nat → Bool
  | o, p, q, r => o.ev (p r) (q r)
theorem jt_bin (o : Op) (p q : Nat → Bool) (n k : Nat) (S : Sto) : call (k + 1) i_joined_tables [.str o.s, .lst [tbU p n, tbU q n], tbU (fun _ => true) n] S = .ok (tbU (fun r => o.ev (p r) (q r)) n) S := by
  cases o with
  | and =>
    rw [show call (k + 1) i_joined_tables [.str (Op.s .and), .lst [tbU p n, tbU q n], tbU (fun _ => true) n] S = .ok (.int (Builtin.bitAnd ((rowN p n : Nat) : Int) ((rowN q n : Nat) : Int))) S from by kernel_rfl]
    rw [bit_and, rowN_and]
    rfl
  | or =>
    rw [show call (k + 1) i_joined_tables [.str (Op.s .or), .lst [tbU p n, tbU q n], tbU (fun _ => true) n] S = .ok (.int (Builtin.bitOr ((rowN p n : Nat) : Int) ((rowN q n : Nat) : Int))) S from by kernel_rfl]
    rw [bit_or, rowN_or]
    rfl
  | gives =>
    rw [show call (k + 1) i_joined_tables [.str (Op.s .gives), .lst [tbU p n, tbU q n], tbU (fun _ => true) n] S = .ok (.int (Builtin.bitOr (Builtin.bitXor ((rowN (fun _ => true) n : Nat) : Int) ((rowN p n : Nat) : Int)) ((rowN q n : Nat) : Int))) S from by kernel_rfl]
    rw [bit_xor, bit_or, rowN_or]
    rfl
  | same =>
    rw [show call (k + 1) i_joined_tables [.str (Op.s .same), .lst [tbU p n, tbU q n], tbU (fun _ => true) n] S = .ok (.int (Builtin.bitXor (Builtin.bitXor ((rowN (fun _ => true) n : Nat) : Int) ((rowN p n : Nat) : Int)) ((rowN q n : Nat) : Int))) S from by kernel_rfl]
    rw [bit_xor, bit_xor2, rowN_eq (p := fun r => (!p r) != q r) (q := fun r => Op.ev .same (p r) (q r)) fun r => by cases p r <;> cases q r <;> rfl]
theorem jt_neg (p : Nat → Bool) (n k : Nat) (S : Sto) : call (k + 1) i_joined_tables [.str "not", .lst [tbU p n], tbU (fun _ => true) n] S = .ok (tbU (fun r => !p r) n) S := by
  rw [show call (k + 1) i_joined_tables [.str "not", .lst [tbU p n], tbU (fun _ => true) n] S = .ok (.int (Builtin.bitXor ((rowN (fun _ => true) n : Nat) : Int) ((rowN p n : Nat) : Int))) S from by kernel_rfl]
  rw [bit_xor]
theorem jt_yes (n k : Nat) (S : Sto) : call (k + 1) i_joined_tables [.str "yes", .lst [], tbU (fun _ => true) n] S = .ok (tbU (fun _ => true) n) S := by kernel_rfl
theorem jt_no (n k : Nat) (S : Sto) : call (k + 1) i_joined_tables [.str "no", .lst [], tbU (fun _ => true) n] S = .ok (tbU (fun _ => false) n) S := by
  rw [show tbU (fun _ => false) n = .int 0 by unfold tbU; rw [rowN_none fun _ _ => rfl]; rfl]
  kernel_rfl
def rwT (nm : List Str) (r : Nat) (x : Str) : Bool := bp (nm.idxOf x) r
abbrev tabU (nm : List Str) (x : Say) : U := tbU (fun r => x.ev (rwT nm r)) (2 ^ nm.length)
abbrev tnU (nm : List Str) (w : Str) : U := tbU (fun r => rwT nm r w) (2 ^ nm.length)
theorem table_in {nm zs : List Str} {f : Nat} : ∀ (x : Say) (m : Nat) {S : Sto}, S[f]? = some (.dic (dz zs) (zs.map (tnU nm))) → x.deep + 1 ≤ m → (∀ w ∈ x.names, w ∈ zs) → Y (call m i_table_in [x.u, .loc f, tbU (fun _ => true) (2 ^ nm.length)] S) fun u S' => u = tabU nm x ∧ S' = S
  | x, 0, S, hf, hd, hz => absurd hd (by omega)
  | x, 1, S, hf, hd, hz => absurd hd (by have := x.deep_pos; omega)
  | .yes, m + 2, S, hf, hd, hz => by
    rw [show call (m + 2) i_table_in [Say.u .yes, .loc f, tbU (fun _ => true) (2 ^ nm.length)] S = call (m + 1) i_joined_tables [.str "yes", .lst [], tbU (fun _ => true) (2 ^ nm.length)] S from by kernel_rfl]
    exact Y.of (jt_yes _ m S) ⟨rfl, rfl⟩
  | .no, m + 2, S, hf, hd, hz => by
    rw [show call (m + 2) i_table_in [Say.u .no, .loc f, tbU (fun _ => true) (2 ^ nm.length)] S = call (m + 1) i_joined_tables [.str "no", .lst [], tbU (fun _ => true) (2 ^ nm.length)] S from by kernel_rfl]
    exact Y.of (jt_no _ m S) ⟨rfl, rfl⟩
  | .name w, m + 2, S, hf, hd, hz => by
    refine y_run ?_
    show WS (b_table_in (call (m + 1)) [some (Say.u (.name w)), some (.loc f), some (tbU (fun _ => true) (2 ^ nm.length)), none] S) _
    unfold b_table_in
    walk_at "wp"
    refine w_if ?_
    walk_at "wp"
    refine y_ix (u := .str "name") rfl ?_
    walk_at "wp"
    refine ite_b (fun _ => ?_) (fun c => absurd c (by decide))
    walk_at "wp"
    refine y_ix (u := .str w) rfl ?_
    refine y_ix (u := tnU nm w) (ix_of hf (by rw [val_z, if_pos (hz w List.mem_cons_self)])) ?_
    exact ⟨rfl, rfl⟩
  | .neg a, m + 2, S, hf, hd, hz => by
    have hd : a.deep + 1 + 1 ≤ m + 2 := hd
    have ha := Y.eq (table_in a (m + 1) hf (by omega) hz)
    refine y_run ?_
    show WS (b_table_in (call (m + 1)) [some (Say.u (.neg a)), some (.loc f), some (tbU (fun _ => true) (2 ^ nm.length)), none] S) _
    unfold b_table_in
    walk_at "wp"
    refine w_if ?_
    walk_at "wp"
    refine y_ix (u := .str "not") rfl ?_
    walk_at "wp"
    refine ite_b (fun c => absurd c (by decide)) (fun _ => ?_)
    walk_at "wp"
    refine y_ix (u := .str "not") rfl ?_
    walk_at "wp"
    refine ⟨_, rfl, ?_⟩
    walk_at "wp"
    refine y_slT ?_
    rw [cut_one]
    refine ⟨_, rfl, ?_⟩
    refine y_cc rfl (by decide) ?_
    walk_at "wp"
    refine ⟨rfl, Y.of ha ?_⟩
    walk_at "wp"
    refine ⟨rfl, Y.of (jt_neg _ _ m _) ?_⟩
    exact ⟨rfl, rfl⟩
  | .bin o a b, m + 2, S, hf, hd, hz => by
    have hd : max a.deep b.deep + 1 + 1 ≤ m + 2 := hd
    have ha := Y.eq (table_in a (m + 1) hf (by omega) fun w hw => hz w (List.mem_append_left _ hw))
    have hb := Y.eq (table_in b (m + 1) hf (by omega) fun w hw => hz w (List.mem_append_right _ hw))
    refine y_run ?_
    show WS (b_table_in (call (m + 1)) [some (Say.u (.bin o a b)), some (.loc f), some (tbU (fun _ => true) (2 ^ nm.length)), none] S) _
    unfold b_table_in
    walk_at "wp"
    refine w_if ?_
    walk_at "wp"
    refine y_ix (u := .str o.s) rfl ?_
    walk_at "wp"
    refine ite_b (fun c => absurd c (by cases o <;> decide)) (fun _ => ?_)
    walk_at "wp"
    refine y_ix (u := .str o.s) rfl ?_
    walk_at "wp"
    refine ⟨_, rfl, ?_⟩
    walk_at "wp"
    refine y_slT ?_
    rw [cut_one]
    refine ⟨_, rfl, ?_⟩
    refine y_cc rfl (by decide) ?_
    walk_at "wp"
    refine ⟨rfl, Y.of ha ?_⟩
    refine y_cc rfl (show 1 < sizeLine by decide) ?_
    walk_at "wp"
    refine ⟨rfl, Y.of hb ?_⟩
    walk_at "wp"
    refine ⟨rfl, Y.of (jt_bin o _ _ _ m _) ?_⟩
    exact ⟨rfl, rfl⟩
theorem need_namesL {ns zs : List Str} (k : Nat) {S : Sto} : Pst (call (k + 1) i_need_names [.lst (ns.map .str), .lst (zs.map .str)] S) (fun _ S' => S' = S ∧ ns.find? (fun n => !decide (n ∈ zs)) = none) (fun x S' => S' = S ∧ ∃ w, x = NoN w ∧ ns.find? (fun n => !decide (n ∈ zs)) = some w) := by
  refine y_runX ?_
  show WS (b_need_names (call k) [some (.lst (ns.map .str)), some (.lst (zs.map .str)), none] S) _
  unfold b_need_names
  walk_at "wp"
  refine ⟨_, rfl, ?_⟩
  refine w_loop (fun us d S' => S' = S ∧ ∃ (ms : List Str) (x2 : Option U), us = ms.map .str ∧ d = [some (.lst (ns.map .str)), some (.lst (zs.map .str)), x2] ∧ ns.find? (fun n => !decide (n ∈ zs)) = ms.find? (fun n => !decide (n ∈ zs))) ?_ ?_ _ _ _ ⟨rfl, ns, none, rfl, rfl, rfl⟩
  · rintro u us _ _ ⟨rfl, ms, x2, e, rfl, hf⟩
    cases ms with
    | nil => cases e
    | cons n ms =>
      cases e
      refine ⟨_, rfl, ?_⟩
      refine w_if ?_
      walk_at "wp"
      refine y_ninLs zs rfl ?_
      walk_at "wp"
      refine ite_b (fun c => ?_) (fun c => ?_)
      · refine w_raise ?_
        walk_at "wp"
        refine ⟨_, rfl, rfl, n, rfl, ?_⟩
        rw [hf]
        exact List.find?_cons_of_pos c
      · walk_at "wp"
        refine ⟨rfl, ms, _, rfl, rfl, ?_⟩
        rw [hf]
        exact List.find?_cons_of_neg (by rw [c]; decide)
  · rintro d _ ⟨rfl, ms, x2, e, rfl, hf⟩
    cases ms with
    | nil => exact ⟨rfl, hf⟩
    | cons n ms => cases e
theorem idx_at {w : Str} {done rest : List Str} (nd : (done ++ w :: rest).Nodup) : (done ++ w :: rest).idxOf w = done.length := by
  have hw : w ∉ done := fun z => (List.nodup_append.mp nd).2.2 w z w List.mem_cons_self rfl
  rw [List.idxOf_append, if_neg hw, List.idxOf_cons_self]
  exact Nat.zero_add _
theorem table {m : Nat} {x : Say} {nm : List Str} {S : Sto} (nd : nm.Nodup) (hn : nm.length ≤ 14) (hd : x.deep + 1 ≤ m) (hp : x.parts < 900000) (hz : ∀ w ∈ x.names, w ∈ nm) : Y (call (m + 1) i_table [x.u, .lst (nm.map .str)] S) fun u S' => u = tabU nm x ∧ Fr [] S S' := by
  obtain ⟨k, rfl⟩ : ∃ k, m = k + 1 := ⟨m - 1, by omega⟩
  refine y_run ?_
  show WS (b_table (call (k + 1)) [some x.u, some (.lst (nm.map .str)), none, none, none, none] S) _
  unfold b_table
  walk_at "wp"
  refine ⟨rfl, (names_of x k (by omega) hp).mono ?_⟩
  rintro _ S1 ⟨rfl, f1⟩
  walk_at "wp"
  refine ⟨rfl, ⟨(need_namesL (ns := snm x) (zs := nm) k (S := S1)).mono ?_ ?_⟩⟩
  rotate_left
  · rintro _ _ ⟨_, w, _, h⟩
    have h1 := List.find?_some h
    have h2 := List.mem_of_find?_eq_some h
    have h3 := hz w (nubT_mem.mp (sort_mem.mp h2))
    rw [decide_eq_true h3] at h1
    cases h1
  rintro _ _ ⟨rfl, _⟩
  walk_at "wp"
  refine y_lenS ?_
  refine w_seq (w_set (y_dlocG (y_ok fun n S2 hn2 h2 l2 f2 => ?_)))
  refine w_seq (w_for ?_)
  refine Y.of (show aEnumA (aCons (fVar 1) aNil) [some x.u, some (.lst (nm.map .str)), some (.int (nm.length : Int)), some (.loc n), none, none] S2 = .ok (enumU 0 (nm.map .str)) S2 from rfl) ?_
  have hf2 := f1.trans f2
  have hle := f1.1
  refine w_loop (fun us d S3 => ∃ (a b : List Str) (x4 x5 : Option U), nm = a ++ b ∧ us = enumU a.length (b.map .str) ∧ d = [some x.u, some (.lst (nm.map .str)), some (.int (nm.length : Int)), some (.loc n), x4, x5] ∧ S3[n]? = some (.dic (dz a) (a.map (tnU nm))) ∧ S3.length = S2.length ∧ Fr [] S S3) ?_ ?_ _ _ _ ⟨[], nm, _, _, rfl, rfl, rfl, h2, rfl, hf2⟩
  · rintro u us _ S3 ⟨a, b, x4, x5, en, e, rfl, h3, l3, f3⟩
    cases b with
    | nil => cases e
    | cons w b =>
      rw [List.map_cons] at e
      unfold enumU at e
      injection e with e1 e2
      subst e1
      have hal := congrArg List.length en
      rw [List.length_append, List.length_cons] at hal
      have ix : nm.idxOf w = a.length := by rw [en]; exact idx_at (en ▸ nd)
      have hw : w ∉ a := fun z => (List.nodup_append.mp (en ▸ nd)).2.2 w z w List.mem_cons_self rfl
      refine ⟨_, rfl, ?_⟩
      walk_at "wp"
      refine ⟨rfl, (table_of_name (k := k) (p := a.length) (many := nm.length) (by omega) hn).mono ?_⟩
      rintro _ _ ⟨rfl, rfl⟩
      walk_at "wp"
      have ev : tbU (bp a.length) (2 ^ nm.length) = tnU nm w := by
        rw [← ix]
        rfl
      rw [show U.int ((rowN (bp a.length) (2 ^ nm.length) : Nat) : Int) = tnU nm w from ev]
      refine ⟨_, st_z (g := tnU nm) h3 (by rw [sizeL]; omega), a ++ [w], b, _, _, by rw [en, List.append_assoc]; rfl, by rw [List.length_append]; exact e2, rfl, ?_, by rw [List.length_set]; exact l3, ?_⟩
      · rw [List.getElem?_set_self (List.getElem?_eq_some_iff.mp h3).1, show addS a w = a ++ [w] from if_neg hw]
      · exact f3.thenNew (Fr.set (ms := [n]) (by simp)) (by omega)
  · rintro d S3 ⟨a, b, x4, x5, en, e, rfl, h3, l3, f3⟩
    have hb : b = [] := by
      cases b with
      | nil => rfl
      | cons x b => rw [List.map_cons] at e; unfold enumU at e; cases e
    subst hb
    rw [List.append_nil] at en
    subst en
    walk_at "wp"
    refine ⟨rfl, (full_of (k := k) hn).mono ?_⟩
    rintro _ _ ⟨rfl, rfl⟩
    walk_at "wp"
    refine ⟨rfl, (table_in x (k + 1) h3 hd hz).mono ?_⟩
    rintro _ _ ⟨rfl, rfl⟩
    exact ⟨rfl, f3⟩
theorem tab_bit {nm : List Str} {x : Say} {r : Nat} (hr : r < 2 ^ nm.length) : ((rowN (fun r => x.ev (rwT nm r)) (2 ^ nm.length) / 2 ^ r) % 2 = 1) ↔ x.ev (rwT nm r) = true := by
  have h := rowN_bit (fun r => x.ev (rwT nm r)) (2 ^ nm.length) r
  rw [decide_eq_true hr, Bool.true_and, Nat.testBit_eq_decide_div_mod_eq] at h
  rw [← h, decide_eq_true_eq]
theorem rwT_bits {nm : List Str} (nd : nm.Nodup) (r : Nat) {w : Str} (hw : w ∈ nm) : rwT nm r w = bitsT nm r w := by
  have h := List.idxOf_lt_length_of_mem hw
  have e : nm[nm.idxOf w]? = some w := by rw [List.getElem?_eq_getElem h, List.getElem_idxOf]
  rw [bitsT_at nd e]
  unfold rwT bp
  rw [Nat.testBit_eq_decide_div_mod_eq]
theorem ev_same {ρ σ : Str → Bool} : ∀ {x : Say}, (∀ w ∈ x.names, ρ w = σ w) → x.ev ρ = x.ev σ
  | .yes, _ => rfl
  | .no, _ => rfl
  | .name w, h => h w List.mem_cons_self
  | .neg a, h => by show (!a.ev ρ) = !a.ev σ; rw [ev_same (x := a) h]
  | .bin o a b, h => by
    show o.ev (a.ev ρ) (b.ev ρ) = o.ev (a.ev σ) (b.ev σ)
    rw [ev_same (x := a) fun w hw => h w (List.mem_append_left _ hw), ev_same (x := b) fun w hw => h w (List.mem_append_right _ hw)]
def SaidP (n f : Nat) (ws : List Str) (b L : Int) (d : Nat) (S : Sto) (u : U) (S' : Sto) : Prop :=
  ∃ (x : Say) (L' : Int), u = x.u ∧ x.On (· ∈ ws) ∧ x.deep ≤ max d 1 ∧ S'[f]? = some (.lst [.int L']) ∧ (0 ≤ L → 0 ≤ L') ∧ (x.parts : Int) + L' ≤ 1 + L ∧ Tape n (b + cst d) S' ∧ Fr [n, f] S S'
theorem say_step {n f : Nat} {ws : List Str} (hnf : n ≠ f) (hw0 : 1 ≤ ws.length) (hw1 : ws.length ≤ 1000) (d k : Nat) {b L : Int} {S : Sto} (t0 : Tape n b S) (hb : b + cst d ≤ 2 ^ 100) (hf : S[f]? = some (.lst [.int L]))
    (hrec : ∀ e, d = e + 1 → ∀ {b L : Int} {S : Sto}, Tape n b S → b + cst e ≤ 2 ^ 100 → S[f]? = some (.lst [.int L]) → Y (call (k + 1) i_law_saying [.loc n, .lst (ws.map .str), .loc f, .int e] S) (SaidP n f ws b L e S)) :
    Y (call (k + 2) i_law_saying [.loc n, .lst (ws.map .str), .loc f, .int d] S) (SaidP n f ws b L d S) := by
  have hc := cst_pos d
  refine y_run ?_
  show WS (b_law_saying (call (k + 1)) [some (.loc n), some (.lst (ws.map .str)), some (.loc f), some (.int d), none, none, none] S) _
  unfold b_law_saying
  walk_at "wp"
  refine ⟨rfl, (draw t0 (by omega) (by first | decide | omega) (by first | decide | omega)).mono ?_⟩; rintro _ S1 ⟨r1, rfl, r10, r11, t1, l1, f1⟩
  have hf1 : S1[f]? = some (.lst [.int L]) := f1.get hf (by simp; omega)
  have f1 : Fr [n, f] S S1 := f1.more (by simp)
  walk_at "wp"
  refine w_ifP (fun b => b = false → 2 ≤ L ∧ 2 ≤ d ∧ 3 ≤ r1) ?_ (fun _ => ?_) (fun hb1 => ?_)
  · walk_at "wp"
    refine y_ix (ix_first hf1) ?_
    walk_at "wp"
    refine ite_b (fun _ => ⟨rfl, fun h => by cases h⟩) (fun c1 => ?_)
    walk_at "wp"
    refine ite_b (fun _ => ⟨rfl, fun h => by cases h⟩) (fun c2 => ?_)
    walk_at "wp"
    refine ⟨rfl, fun c3 => ?_⟩
    have := of_decide_eq_false c1
    have := of_decide_eq_false c2
    have := of_decide_eq_false c3
    omega
  · walk_at "wp"
    refine y_lenS ?_
    walk_at "wp"
    refine ⟨rfl, (draw t1 (by omega) (by first | decide | omega) (by first | decide | omega)).mono ?_⟩; rintro _ S2 ⟨r2, rfl, r20, r21, t2, l2, f2⟩
    refine y_ixW r20 r21 fun w hw _ => ?_
    walk_at "wp"
    refine ⟨rfl, (draw t2 (by omega) (by first | decide | omega) (by first | decide | omega)).mono ?_⟩; rintro _ S3 ⟨r3, rfl, r30, r31, t3, l3, f3⟩
    walk_at "wp"
    refine y_min ?_
    refine y_ixL (by split <;> omega) (show _ < (3 : Int) by split <;> omega) fun u hu _ => ?_
    have hf3 : S3[f]? = some (.lst [.int L]) := f3.get (f2.get hf1 (by simp; omega)) (by simp; omega)
    have f4 : Fr [n, f] S S3 := f1.trans ((f2.trans f3).more (by simp))
    have t4 : Tape n (b + cst d) S3 := t3.mono (by omega)
    simp only [List.mem_cons, List.mem_nil_iff, or_false] at hu
    rcases hu with rfl | rfl | rfl
    · exact ⟨.yes, L, rfl, trivial, Nat.le_max_right _ _, hf3, id, by show ((1 : Nat) : Int) + L ≤ 1 + L; omega, t4, f4⟩
    · exact ⟨.no, L, rfl, trivial, Nat.le_max_right _ _, hf3, id, by show ((1 : Nat) : Int) + L ≤ 1 + L; omega, t4, f4⟩
    · exact ⟨.name w, L, rfl, hw, Nat.le_max_right _ _, hf3, id, by show ((1 : Nat) : Int) + L ≤ 1 + L; omega, t4, f4⟩
  · obtain ⟨hL, hd, hr⟩ := hb1 rfl
    obtain ⟨e, rfl⟩ : ∃ e, d = e + 1 := ⟨d - 1, by omega⟩
    have hrec := @hrec e rfl
    have he : ((e + 1 : Nat) : Int) - 1 = (e : Int) := by omega
    have hcs : cst (e + 1) = 90 + 2 * cst e := rfl
    have hce := cst_pos e
    walk_at "wp"
    refine y_ix (ix_first hf1) ?_
    walk_at "wp"
    refine y_intB ?_
    walk_at "wp"
    refine ⟨_, st_first hf1, ?_⟩
    have hn1 : f < S1.length := (List.getElem?_eq_some_iff.mp hf1).1
    have hv1 : r1 = 3 → (L - 1 - if decide ((3 : Int) < r1) = true then 1 else 0) = L - 1 := fun h => by rw [if_neg (by rw [decide_eq_true_eq]; omega)]; omega
    have hv2 : 3 < r1 → (L - 1 - if decide ((3 : Int) < r1) = true then 1 else 0) = L - 2 := fun h => by rw [if_pos (by rw [decide_eq_true_eq]; omega)]; omega
    generalize (L - 1 - if decide ((3 : Int) < r1) = true then 1 else 0) = v at hv1 hv2 ⊢
    have hf2 : (S1.set f (.lst [.int v]))[f]? = some (.lst [.int v]) := List.getElem?_set_self hn1
    have t2 : Tape n (b + 30) (S1.set f (.lst [.int v])) := t1.fr (ms := [f]) (Fr.set (by simp)) (by simp; omega)
    have f2 : Fr [n, f] S (S1.set f (.lst [.int v])) := f1.trans (Fr.set (by simp))
    generalize S1.set f (.lst [.int v]) = S2 at hf2 t2 f2 ⊢
    walk_at "wp"
    refine w_if ?_
    walk_at "wp"
    refine ite_b (fun c1 => ?_) (fun c1 => ?_)
    · have c1 := of_decide_eq_true c1
      have hv := hv1 c1
      walk_at "wp"
      refine ⟨rfl, ?_⟩
      rw [he]
      refine (hrec t2 (by omega) hf2).mono ?_
      rintro _ S3 ⟨x, L', rfl, hx, hxd, hf3, hL3, hp3, t3, f3⟩
      walk_at "wp"
      exact ⟨.neg x, L', rfl, hx, by show x.deep + 1 ≤ _; omega, hf3, fun _ => hL3 (by omega), by show ((x.parts + 1 : Nat) : Int) + L' ≤ _; omega, t3.mono (by omega), f2.trans f3⟩
    · have c1 := of_decide_eq_false c1
      have hv := hv2 (by omega)
      walk_at "wp"
      refine y_ixL (by omega) (show r1 - 4 < (6 : Int) by omega) fun u hu _ => ?_
      obtain ⟨o, rfl⟩ : ∃ o : Op, u = .str o.s := by
        simp only [List.mem_cons, List.mem_nil_iff, or_false] at hu
        rcases hu with rfl | rfl | rfl | rfl | rfl | rfl
        · exact ⟨.and, rfl⟩
        · exact ⟨.or, rfl⟩
        · exact ⟨.gives, rfl⟩
        · exact ⟨.same, rfl⟩
        · exact ⟨.and, rfl⟩
        · exact ⟨.or, rfl⟩
      walk_at "wp"
      refine ⟨rfl, ?_⟩
      rw [he]
      refine (hrec t2 (by omega) hf2).mono ?_
      rintro _ S3 ⟨x, L3, rfl, hx, hxd, hf3, hL3, hp3, t3, f3⟩
      walk_at "wp"
      refine ⟨rfl, ?_⟩
      rw [he]
      refine (hrec t3 (by omega) hf3).mono ?_
      rintro _ S4 ⟨y, L4, rfl, hy, hyd, hf4, hL4, hp4, t4, f4⟩
      walk_at "wp"
      exact ⟨.bin o x y, L4, rfl, ⟨hx, hy⟩, by show max x.deep y.deep + 1 ≤ _; omega, hf4, fun _ => hL4 (hL3 (by omega)), by show ((x.parts + y.parts + 1 : Nat) : Int) + L4 ≤ _; omega, t4.mono (by omega), f2.trans (f3.trans f4)⟩
theorem saying {n f : Nat} {ws : List Str} (hnf : n ≠ f) (hw0 : 1 ≤ ws.length) (hw1 : ws.length ≤ 1000) : ∀ (d k : Nat) {b L : Int} {S : Sto}, Tape n b S → b + cst d ≤ 2 ^ 100 → S[f]? = some (.lst [.int L]) →
    Y (call (d + k + 2) i_law_saying [.loc n, .lst (ws.map .str), .loc f, .int d] S) (SaidP n f ws b L d S)
  | 0, k, b, L, S, t, hb, hf => say_step hnf hw0 hw1 0 (0 + k) t hb hf fun e he => by cases he
  | d + 1, k, b, L, S, t, hb, hf => by
    have := say_step hnf hw0 hw1 (d + 1) (d + k + 1) t hb hf fun e he b L S t hb hf => by
      cases he
      exact saying hnf hw0 hw1 d k t hb hf
    rw [show d + 1 + k + 2 = d + k + 1 + 2 from by omega]
    exact this
theorem tableX {m : Nat} {x : Say} {nm : List Str} {S : Sto} (nd : nm.Nodup) (hn : nm.length ≤ 14) (hd : x.deep + 1 ≤ m) (hp : x.parts < 900000) :
    Pst (call (m + 1) i_table [x.u, .lst (nm.map .str)] S) (fun u S' => u = tabU nm x ∧ Fr [] S S' ∧ (snm x).find? (fun n => !decide (n ∈ nm)) = none) (fun e S' => Fr [] S S' ∧ ∃ w, e = NoN w ∧ (snm x).find? (fun n => !decide (n ∈ nm)) = some w) := by
  cases hf : (snm x).find? (fun n => !decide (n ∈ nm)) with
  | none =>
    refine (table (S := S) nd hn hd hp fun w hw => ?_).pst ?_
    · have h9 := List.find?_eq_none.mp hf w (sort_mem.mpr (nubT_mem.mpr hw))
      simpa using h9
    · rintro _ _ ⟨rfl, f⟩
      exact ⟨rfl, f, rfl⟩
  | some w =>
    obtain ⟨k, rfl⟩ : ∃ k, m = k + 1 := ⟨m - 1, by omega⟩
    refine y_runX ?_
    show WS (b_table (call (k + 1)) [some x.u, some (.lst (nm.map .str)), none, none, none, none] S) _
    unfold b_table
    refine w_seq (w_exprX ?_)
    walk_at "wp"
    refine ⟨rfl, (names_of x k (by omega) hp).mono ?_⟩
    rintro _ S1 ⟨rfl, f1⟩
    walk_at "wp"
    refine ⟨rfl, (need_namesL (ns := snm x) (zs := nm) k (S := S1)).mono ?_ ?_⟩
    · rintro _ _ ⟨_, h⟩
      rw [hf] at h
      cases h
    · rintro e S2 ⟨rfl, w2, rfl, h⟩
      rw [hf] at h
      cases h
      exact ⟨f1, w, rfl, rfl⟩
def toldT (x : Say) (nm : List Str) : U := match (snm x).find? (fun n => !decide (n ∈ nm)) with
  | none => tabU nm x
  | some w => .tup [.str w]
theorem law_told {m : Nat} {x : Say} {nm : List Str} {S : Sto} (nd : nm.Nodup) (hn : nm.length ≤ 14) (hd : x.deep + 1 ≤ m) (hp : x.parts < 900000) : Y (call (m + 2) i_law_told [x.u, .lst (nm.map .str)] S) fun u S' => u = toldT x nm ∧ Fr [] S S' := by
  refine y_run ?_
  show WS (b_law_told (call (m + 1)) [some x.u, some (.lst (nm.map .str)), none, none, none] S) _
  unfold b_law_told
  walk_at "wp"
  refine w_try ?_
  refine w_setX ?_
  walk_at "wp"
  refine ⟨rfl, (tableX nd hn hd hp).mono ?_ ?_⟩
  · rintro _ S1 ⟨rfl, f1, hf⟩
    walk_at "wp"
    refine y_if ?_
    walk_at "wp"
    refine ite_b (fun _ => ?_) (fun c => by cases c)
    walk_at "wp"
    refine ⟨?_, f1⟩
    unfold toldT
    rw [hf]
  · rintro e S1 ⟨f1, w, rfl, hf⟩
    refine ⟨by kernel_rfl, ?_⟩
    walk_at "wp"
    refine y_if ?_
    walk_at "wp"
    refine ite_b (fun c => by cases c) (fun _ => ?_)
    refine y_tup (y_cons (y_fld (y_var (u := .exc "NoName" "name" (.str w)) rfl ⟨_, _, rfl, by kernel_rfl, ?_⟩)))
    walk_at "wp"
    refine ⟨?_, f1⟩
    unfold toldT
    rw [hf]
theorem y_sortOr {fa fb : FA} {d : En} {S : Sto} {QA : List U → Sto → Prop} (h : Y (fa d S) fun us S1 => ∃ zs : List Str, us = [.lst (zs.map .str)] ∧ zs.length ≤ 30 ∧ Y (fb d S1) fun vs S2 => ∃ ys : List Str, vs = [.lst (ys.map .str)] ∧ ys.length ≤ 30 ∧ QA ((sortT (nubT (zs ++ ys))).map .str) S2) : Y (aSortOr fa fb d S) QA :=
  y_bind (h.mono fun us S1 ⟨zs, e, hl, h1⟩ => by
    subst e
    show Y (match (DL.listOf (.lst (zs.map .str)) S1).bind strsOf with
      | some zs => DL.guard (decide (zs.length ≤ 30)) ((fb d S1).bind fun vs S2 => match vs with
        | [v] => match (DL.listOf v S2).bind strsOf with
          | some ys => DL.guard (decide (ys.length ≤ 30)) (.ok ((sortT (nubT (zs ++ ys))).map .str) S2)
          | none => .bad
        | _ => .bad)
      | none => .bad) QA
    have e1 : (DL.listOf (.lst (zs.map .str)) S1).bind strsOf = some zs := by
      show (some (zs.map U.str)).bind strsOf = _
      rw [Option.bind_some, strsOf_map]
    rw [e1]
    refine y_guard (decide_eq_true hl) (y_bind (h1.mono fun vs S2 ⟨ys, e, hl2, q⟩ => ?_))
    subst e
    show Y (match (DL.listOf (.lst (ys.map .str)) S2).bind strsOf with
      | some ys => DL.guard (decide (ys.length ≤ 30)) (.ok ((sortT (nubT (zs ++ ys))).map .str) S2)
      | none => .bad) QA
    have e2 : (DL.listOf (.lst (ys.map .str)) S2).bind strsOf = some ys := by
      show (some (ys.map U.str)).bind strsOf = _
      rw [Option.bind_some, strsOf_map]
    rw [e2]
    exact y_guard (decide_eq_true hl2) ⟨q⟩)
theorem rows_all {x y : Say} {nm : List Str} (nd : nm.Nodup) (hx : ∀ w ∈ x.names, w ∈ nm) (hy : ∀ w ∈ y.names, w ∈ nm) : (∀ r, r < 2 ^ nm.length → x.ev (rwT nm r) = y.ev (rwT nm r)) ↔ ∀ ρ, x.ev ρ = y.ev ρ := by
  refine ⟨fun h ρ => ?_, fun h r _ => h _⟩
  have e : ∀ z : Say, (∀ w ∈ z.names, w ∈ nm) → z.ev (rwT nm (numT ρ nm)) = z.ev ρ := fun z hz => ev_same fun w hw => by rw [rwT_bits nd _ (hz w hw), numT_bits ρ (hz w hw)]
  rw [← e x hx, ← e y hy]
  exact h _ (numT_lt ρ nm)
theorem snm_sub {ws : List Str} {x : Say} (h : ∀ w ∈ x.names, w ∈ ws) : (snm x).length ≤ ws.length := by
  have h1 : (snm x).length = (nubT x.names).length := sort_len _
  rw [h1]
  exact nodup_sub (nubT_nodup _) fun w hw => h w (nubT_mem.mp hw)
theorem same {m : Nat} {ws : List Str} {x y : Say} {S : Sto} (hw : ws.length ≤ 14) (hx : ∀ w ∈ x.names, w ∈ ws) (hy : ∀ w ∈ y.names, w ∈ ws) (dx : x.deep + 1 ≤ m) (dy : y.deep + 1 ≤ m) (px : x.parts < 900000) (py : y.parts < 900000) :
    Y (call (m + 2) i_same [x.u, y.u] S) fun u S' => ∃ b : Bool, u = .bl b ∧ (b = true ↔ ∀ ρ, x.ev ρ = y.ev ρ) ∧ Fr [] S S' := by
  refine y_run ?_
  show WS (b_same (call (m + 1)) [some x.u, some y.u, none] S) _
  unfold b_same
  refine w_seq (w_set (y_val (y_sortOr ?_)))
  walk_at "wp"
  refine ⟨rfl, (names_of x m (by omega) px).mono ?_⟩
  rintro _ S1 ⟨rfl, f1⟩
  have lx := snm_sub hx
  have ly := snm_sub hy
  walk_at "wp"
  refine ⟨snm x, rfl, by omega, ?_⟩
  walk_at "wp"
  refine ⟨rfl, (names_of y m (by omega) py).mono ?_⟩
  rintro _ S2 ⟨rfl, f2⟩
  walk_at "wp"
  refine ⟨snm y, rfl, by omega, ?_⟩
  have nd : (sortT (nubT (snm x ++ snm y))).Nodup := (sortT_perm _).nodup_iff.mpr (nubT_nodup _)
  have hmx : ∀ w ∈ x.names, w ∈ sortT (nubT (snm x ++ snm y)) := fun w h => sort_mem.mpr (nubT_mem.mpr (List.mem_append_left _ (sort_mem.mpr (nubT_mem.mpr h))))
  have hmy : ∀ w ∈ y.names, w ∈ sortT (nubT (snm x ++ snm y)) := fun w h => sort_mem.mpr (nubT_mem.mpr (List.mem_append_right _ (sort_mem.mpr (nubT_mem.mpr h))))
  have hl : (sortT (nubT (snm x ++ snm y))).length ≤ 14 := by
    refine Nat.le_trans (nodup_sub nd (m := ws) fun w h => ?_) hw
    rcases List.mem_append.mp (nubT_mem.mp (sort_mem.mp h)) with z | z
    · exact hx w (nubT_mem.mp (sort_mem.mp z))
    · exact hy w (nubT_mem.mp (sort_mem.mp z))
  generalize sortT (nubT (snm x ++ snm y)) = nm at nd hmx hmy hl
  refine w_ret ?_
  walk_at "wp"
  refine ⟨rfl, (table (m := m) nd hl (by omega) px hmx).mono ?_⟩
  rintro _ S3 ⟨rfl, f3⟩
  walk_at "wp"
  refine ⟨rfl, (table (m := m) nd hl (by omega) py hmy).mono ?_⟩
  rintro _ S4 ⟨rfl, f4⟩
  refine y_eqI ?_
  refine ⟨_, rfl, ?_, ((f1.trans f2).trans f3).trans f4⟩
  rw [decide_eq_true_eq, Int.natCast_inj, rowN_inj]
  exact rows_all nd hmx hmy
theorem bools_eqv : ∀ (a b : List Bool), PyData.eqvAll (a.map .bool) (b.map .bool) = decide (a = b)
  | [], [] => by rw [List.map_nil]; unfold PyData.eqvAll; rfl
  | [], b :: bs => by rw [List.map_nil, List.map_cons]; unfold PyData.eqvAll; rfl
  | a :: as, [] => by rw [List.map_nil, List.map_cons]; unfold PyData.eqvAll; rfl
  | a :: as, b :: bs => by
    have ih := bools_eqv as bs
    rw [List.map_cons, List.map_cons]
    unfold PyData.eqvAll
    rw [ih]
    have e0 : PyData.eqv (.bool a) (.bool b) = decide (a = b) := by unfold PyData.eqv; cases a <;> cases b <;> rfl
    rw [e0]
    by_cases q : a = b <;> by_cases p : as = bs <;> simp [q, p]
theorem bools_D : ∀ bs : List Bool, toDs (bs.map .bl) = some (bs.map .bool)
  | [] => rfl
  | z :: zs => by
    rw [List.map_cons]
    unfold toDs
    rw [bools_D zs]
    rfl
theorem bools_shaped (bs : List Bool) : SeqAt.shaped (.list (bs.map .bool)) = true := by
  have h1 : PyData.canLayAll0 (bs.map .bool) = true ∧ PyData.depthAll (bs.map .bool) ≤ 1 := by
    induction bs with
    | nil => exact ⟨rfl, Nat.zero_le _⟩
    | cons z zs ih =>
      obtain ⟨a, b⟩ := ih
      rw [List.map_cons]
      refine ⟨?_, ?_⟩
      · unfold PyData.canLayAll0
        rw [a, show PyData.canLay0 (.bool z) = true from rfl]
        rfl
      · unfold PyData.depthAll
        rw [show PyData.depth (.bool z) = 0 from rfl]
        omega
  unfold SeqAt.shaped
  rw [show PyData.canLay0 (.list (bs.map .bool)) = true from by unfold PyData.canLay0; exact h1.1]
  rw [decide_eq_true (by unfold PyData.depth; have := h1.2; omega)]
  rfl
theorem y_eqBs {a b : List Bool} {S : Sto} {Q : U → Sto → Prop} (h : Q (.bl (decide (a = b))) S) : Y (eqU (.lst (a.map .bl)) (.lst (b.map .bl)) S) Q := by
  refine y_eqD (a := .list (a.map .bool)) (b := .list (b.map .bool)) (by show (toDs _).map PyData.list = _; rw [bools_D]; rfl) (by show (toDs _).map PyData.list = _; rw [bools_D]; rfl) (bools_shaped a) (bools_shaped b) rfl ?_
  rw [show PyData.eqv (.list (a.map .bool)) (.list (b.map .bool)) = decide (a = b) from by unfold PyData.eqv; exact bools_eqv a b]
  exact h
set_option maxHeartbeats 1000000 in
theorem law_alike {m : Nat} {L : List Str} {x y : Say} {S : Sto} (nd : L.Nodup) (hl : L.length ≤ 8) (hx : ∀ w ∈ x.names, w ∈ L) (hy : ∀ w ∈ y.names, w ∈ L) (dx : x.deep ≤ m) (dy : y.deep ≤ m) :
    Y (call (m + 1) i_law_alike [x.u, y.u, .lst (L.map .str)] S) fun u S' => ∃ b : Bool, u = .bl b ∧ (b = true ↔ ∀ ρ, x.ev ρ = y.ev ρ) ∧ S' = S := by
  have hm : 1 ≤ m := by have := x.deep_pos; omega
  obtain ⟨k, rfl⟩ : ∃ k, m = k + 1 := ⟨m - 1, by omega⟩
  refine y_run ?_
  show WS (b_law_alike (call (k + 1)) [some x.u, some y.u, some (.lst (L.map .str)), none, none, none] S) _
  unfold b_law_alike
  have h2 : 2 ^ L.length ≤ 2 ^ 8 := Nat.pow_le_pow_right (by decide) hl
  obtain ⟨N, hN⟩ : ∃ N, N = 2 ^ L.length := ⟨_, rfl⟩
  rw [← hN] at h2
  have hra := rows_all nd hx hy
  rw [← hN] at hra
  refine w_seq (w_set ?_)
  walk_at "wp"
  refine y_lenS ?_
  refine y_shlM (by omega) ?_
  rw [← hN]
  refine ⟨(N : Int), rfl, by omega, by omega, ?_⟩
  rw [Int.toNat_natCast, rng_eq]
  refine y_compX (fun (r : Nat) => U.int (0 + (r : Int) * 1)) (fun r => rowU L (bitsT L r)) (List.range N) [] (fun r hr => ?_) (by rw [List.length_nil, List.length_range, sizeL]; omega) ?_
  · refine ⟨_, rfl, ?_⟩
    rw [show (0 + (r : Int) * 1) = (r : Int) by omega]
    walk_at "wp"
    refine ⟨rfl, (law_row (k := k) nd (by omega)).mono ?_⟩
    rintro _ _ ⟨rfl, rfl⟩
    exact ⟨rfl, rfl⟩
  rw [List.nil_append]
  refine w_ret ?_
  walk_at "wp"
  refine ⟨_, rfl, ?_⟩
  refine y_compX (fun r => rowU L (bitsT L r)) (fun r => .bl (x.ev (bitsT L r))) (List.range N) [] (fun r hr => ?_) (by rw [List.length_nil, List.length_range, sizeL]; omega) ?_
  · refine ⟨_, rfl, ?_⟩
    walk_at "wp"
    refine ⟨rfl, (law_value x (k + 1) dx hx).mono ?_⟩
    rintro _ _ ⟨rfl, rfl⟩
    exact ⟨rfl, rfl⟩
  rw [List.nil_append]
  walk_at "wp"
  refine ⟨_, rfl, ?_⟩
  refine y_compX (fun r => rowU L (bitsT L r)) (fun r => .bl (y.ev (bitsT L r))) (List.range N) [] (fun r hr => ?_) (by rw [List.length_nil, List.length_range, sizeL]; omega) ?_
  · refine ⟨_, rfl, ?_⟩
    walk_at "wp"
    refine ⟨rfl, (law_value y (k + 1) dy hy).mono ?_⟩
    rintro _ _ ⟨rfl, rfl⟩
    exact ⟨rfl, rfl⟩
  rw [List.nil_append]
  have e1 : ∀ z : Say, (List.range N).map (fun r => U.bl (z.ev (bitsT L r))) = ((List.range N).map fun r => z.ev (bitsT L r)).map .bl := fun z => by rw [List.map_map]; rfl
  rw [e1 x, e1 y]
  refine y_eqBs ⟨_, rfl, ?_, rfl⟩
  rw [decide_eq_true_eq, List.map_inj_left]
  refine Iff.trans ?_ hra
  have e2 : ∀ (z : Say) (r : Nat), (∀ w ∈ z.names, w ∈ L) → z.ev (rwT L r) = z.ev (bitsT L r) := fun z r hz => ev_same fun w hw => rwT_bits nd r (hz w hw)
  refine ⟨fun h r hr => ?_, fun h r hr => ?_⟩
  · rw [e2 x r hx, e2 y r hy]
    exact h r (List.mem_range.mpr hr)
  · rw [← e2 x r hx, ← e2 y r hy]
    exact h r (List.mem_range.mp hr)
def thS (ρ : Str → Bool) : List Str → Say → Say
  | [], a => a
  | w :: ws, a => thS ρ ws (.bin .and a (if ρ w then .name w else .neg (.name w)))
theorem th_ev {ρ τ : Str → Bool} : ∀ (ws : List Str) (a : Say), (thS ρ ws a).ev τ = (a.ev τ && ws.all fun w => τ w == ρ w)
  | [], a => by show a.ev τ = (a.ev τ && true); rw [Bool.and_true]
  | w :: ws, a => by
    show (thS ρ ws _).ev τ = _
    rw [th_ev ws]
    have e : (Say.bin .and a (if ρ w then .name w else .neg (.name w))).ev τ = (a.ev τ && (τ w == ρ w)) := by
      show (a.ev τ && (if ρ w then Say.name w else .neg (.name w)).ev τ) = _
      cases ρ w
      · show (a.ev τ && !τ w) = _
        cases τ w <;> rfl
      · show (a.ev τ && τ w) = _
        cases τ w <;> rfl
    rw [e, List.all_cons, Bool.and_assoc]
theorem th_size {ρ : Str → Bool} : ∀ (ws : List Str) (a : Say), (thS ρ ws a).deep ≤ max a.deep 2 + ws.length ∧ (thS ρ ws a).parts ≤ a.parts + 3 * ws.length ∧ ∀ w ∈ (thS ρ ws a).names, w ∈ a.names ∨ w ∈ ws
  | [], a => ⟨by show a.deep ≤ _; omega, by show a.parts ≤ _; omega, fun w h => .inl h⟩
  | w :: ws, a => by
    obtain ⟨h1, h2, h3⟩ := th_size (ρ := ρ) ws (.bin .and a (if ρ w then .name w else .neg (.name w)))
    have d1 : (if ρ w then Say.name w else .neg (.name w)).deep ≤ 2 ∧ (if ρ w then Say.name w else .neg (.name w)).parts ≤ 2 ∧ ∀ v ∈ (if ρ w then Say.name w else .neg (.name w)).names, v = w := by
      cases ρ w
      · exact ⟨by show 2 ≤ 2; decide, by show 2 ≤ 2; decide, fun v hv => List.mem_singleton.mp hv⟩
      · exact ⟨by show 1 ≤ 2; decide, by show 1 ≤ 2; decide, fun v hv => List.mem_singleton.mp hv⟩
    obtain ⟨z, hz⟩ : ∃ z, z = if ρ w then Say.name w else .neg (.name w) := ⟨_, rfl⟩
    have e0 : thS ρ (w :: ws) a = thS ρ ws (.bin .and a z) := by rw [hz]; rfl
    rw [← hz] at h1 h2 h3 d1
    rw [e0, List.length_cons]
    have e1 : (Say.bin .and a z).deep = max a.deep z.deep + 1 := rfl
    have e2 : (Say.bin .and a z).parts = a.parts + z.parts + 1 := rfl
    refine ⟨?_, ?_, fun v hv => ?_⟩
    · omega
    · omega
    · rcases h3 v hv with q | q
      · rcases List.mem_append.mp (show v ∈ a.names ++ z.names from q) with q | q
        · exact .inl q
        · exact .inr (by rw [d1.2.2 v q]; exact List.mem_cons_self)
      · exact .inr (List.mem_cons_of_mem _ q)
theorem but_same {ρ : Str → Bool} {L : List Str} {x : Say} (hx : ∀ w ∈ x.names, w ∈ L) : (∀ τ, x.ev τ = (Say.bin .and (.neg (thS ρ L .yes)) x).ev τ) ↔ x.ev ρ = false := by
  have e : ∀ τ, (Say.bin .and (.neg (thS ρ L .yes)) x).ev τ = ((!(L.all fun w => τ w == ρ w)) && x.ev τ) := fun τ => by
    show ((!(thS ρ L .yes).ev τ) && x.ev τ) = _
    rw [th_ev]
    rfl
  refine ⟨fun h => ?_, fun h τ => ?_⟩
  · have := h ρ
    rw [e, List.all_eq_true.mpr fun w _ => by simp] at this
    simpa using this
  · rw [e]
    cases q : L.all fun w => τ w == ρ w with
    | false => simp
    | true =>
      have : x.ev τ = x.ev ρ := ev_same fun w hw => by
        have := List.all_eq_true.mp q w (hx w hw)
        simpa using this
      rw [this, h]
      rfl
theorem law_but_one {n m : Nat} {b : Int} {L : List Str} {x : Say} {S : Sto} (t0 : Tape n b S) (hb : b ≤ 2 ^ 100) (nd : L.Nodup) (hl : L.length ≤ 12) (hx : ∀ w ∈ x.names, w ∈ L) (dx : x.deep ≤ m + 1) :
    Y (call (m + 2) i_law_but_one [.loc n, x.u, .lst (L.map .str)] S) fun u S' => ∃ (y : Say) (e : Bool), u = .tup [y.u, .bl e] ∧ (e = true ↔ ∀ ρ, x.ev ρ = y.ev ρ) ∧ (∀ w ∈ y.names, w ∈ L) ∧ y.deep ≤ max x.deep 15 + 1 ∧ y.parts ≤ x.parts + 50 ∧ Tape n (b + 30) S' ∧ Fr [n] S S' := by
  refine y_run ?_
  show WS (b_law_but_one (call (m + 1)) [some (.loc n), some x.u, some (.lst (L.map .str)), none, none, none, none] S) _
  unfold b_law_but_one
  have h2 : 2 ^ L.length ≤ 2 ^ 12 := Nat.pow_le_pow_right (by decide) hl
  have h20 : 0 < 2 ^ L.length := Nat.two_pow_pos _
  refine w_seq (w_set ?_)
  walk_at "wp"
  refine y_lenS ?_
  refine y_shlM (by omega) ?_
  walk_at "wp"
  refine ⟨rfl, (draw t0 (by omega) (by omega) (by omega)).mono ?_⟩
  rintro _ S1 ⟨r1, rfl, r10, r11, t1, l1, f1⟩
  obtain ⟨r, rfl⟩ := Int.eq_ofNat_of_zero_le r10
  refine w_seq (w_set ?_)
  walk_at "wp"
  refine ⟨rfl, (law_row (k := m) nd (by omega)).mono ?_⟩
  rintro _ S1 ⟨rfl, rfl⟩
  generalize hρ : bitsT L r = ρ
  refine w_seq (w_set ?_)
  walk_at "wp"
  refine ⟨_, rfl, ?_⟩
  refine w_loop (fun us d S2 => ∃ (a : Say) (l : List Str) (x6 : Option U), us = l.map .str ∧ (∀ w ∈ l, w ∈ L) ∧ thS ρ l a = thS ρ L .yes ∧ d = [some (.loc n), some x.u, some (.lst (L.map .str)), some (.int (r : Int)), some (rowU L ρ), some a.u, x6] ∧ S2 = S1) ?_ ?_ _ _ _ ⟨.yes, L, _, rfl, fun _ h => h, rfl, rfl, rfl⟩
  · rintro u us _ _ ⟨a, l, x6, e, hl2, hth, rfl, rfl⟩
    cases l with
    | nil => cases e
    | cons w l =>
      rw [List.map_cons] at e
      obtain ⟨e1, e2⟩ := List.cons.inj e
      subst e1
      refine ⟨_, rfl, ?_⟩
      refine w_set (y_tup ?_)
      refine y_cons (y_C (y_cons (y_var rfl (y_cons (y_if ?_)))))
      walk_at "wp"
      refine y_ixZ (hl2 w List.mem_cons_self) ?_
      walk_at "wp"
      have hth2 : thS ρ l (.bin .and a (if ρ w then .name w else .neg (.name w))) = thS ρ L .yes := hth
      refine ite_b (fun q => ?_) (fun q => ?_)
      · rw [if_pos q] at hth2
        walk_at "wp"
        exact ⟨_, l, _, e2, fun v hv => hl2 v (List.mem_cons_of_mem _ hv), hth2, rfl, rfl⟩
      · rw [if_neg (by rw [q]; decide)] at hth2
        walk_at "wp"
        exact ⟨_, l, _, e2, fun v hv => hl2 v (List.mem_cons_of_mem _ hv), hth2, rfl, rfl⟩
  · rintro d _ ⟨a, l, x6, e, hl2, hth, rfl, rfl⟩
    have hln : l = [] := List.map_eq_nil_iff.mp e.symm
    subst hln
    have hth : a = thS ρ L .yes := hth
    subst hth
    refine w_ret ?_
    walk_at "wp"
    refine ⟨rfl, (law_value x (m + 1) dx hx).mono ?_⟩
    rintro _ _ ⟨rfl, rfl⟩
    walk_at "wp"
    obtain ⟨s1, s2, s3⟩ := th_size (ρ := ρ) L .yes
    refine ⟨.bin .and (.neg (thS ρ L .yes)) x, !x.ev ρ, rfl, ?_, fun w hw => ?_, ?_, ?_, t1, f1⟩
    · rw [but_same hx]
      cases x.ev ρ <;> simp
    · rcases List.mem_append.mp (show w ∈ (thS ρ L .yes).names ++ x.names from hw) with q | q
      · rcases s3 w q with q | q
        · cases q
        · exact q
      · exact hx w q
    · show max ((thS ρ L .yes).deep + 1) x.deep + 1 ≤ _
      have : Say.yes.deep = 1 := rfl
      omega
    · show (thS ρ L .yes).parts + 1 + x.parts + 1 ≤ _
      have : Say.yes.parts = 1 := rfl
      omega
theorem w_ifP' {t : FT} {g : FS} {d : En} {S : Sto} {D : EU} (h : Y (t d S) fun b S1 => b = false ∧ D.nx d S1) : WS (fIfS t g fNop d S) D :=
  w_if (h.mono fun b S1 ⟨e, q⟩ => by subst e; exact w_nop q)
def barS : Nat → Say
  | 0 => .neg .yes
  | 1 => .bin .same .no .no
  | 2 => .yes
  | 3 => .bin .gives .yes .no
  | _ => .no
theorem law_bare_right {n m : Nat} {b : Int} {S : Sto} (t0 : Tape n b S) (hb : b ≤ 2 ^ 100) :
    Y (call (m + 8) i_law_bare_right [.loc n] S) fun u S' => u = .bl true ∧ Tape n (b + 30) S' ∧ Fr [n] S S' := by
  refine y_run ?_
  show WS (b_law_bare_right (call (m + 7)) [some (.loc n), none, none] S) _
  unfold b_law_bare_right
  refine w_seq (w_set ?_)
  walk_at "wp"
  refine ⟨rfl, (draw t0 (by omega) (by decide) (by decide)).mono ?_⟩
  rintro _ S1 ⟨r1, rfl, r10, r11, t1, l1, f1⟩
  obtain ⟨r, rfl⟩ := Int.eq_ofNat_of_zero_le r10
  have hr : r < 5 := by omega
  have e : ([.tup [.str "not", .tup [.str "yes"]], .tup [.str "same", .tup [.str "no"], .tup [.str "no"]], .tup [.str "yes"], .tup [.str "if", .tup [.str "yes"], .tup [.str "no"]], .tup [.str "no"]] : List U)[r]? = some (barS r).u := by
    match r, hr with
    | 0, _ => rfl
    | 1, _ => rfl
    | 2, _ => rfl
    | 3, _ => rfl
    | 4, _ => rfl
  have hd : (barS r).deep ≤ 2 ∧ (barS r).parts ≤ 3 ∧ (barS r).names = [] := by
    match r, hr with
    | 0, _ => exact ⟨by decide, by decide, rfl⟩
    | 1, _ => exact ⟨by decide, by decide, rfl⟩
    | 2, _ => exact ⟨by decide, by decide, rfl⟩
    | 3, _ => exact ⟨by decide, by decide, rfl⟩
    | 4, _ => exact ⟨by decide, by decide, rfl⟩
  generalize barS r = x at e hd
  obtain ⟨d1, d2, d3⟩ := hd
  refine y_ixLst e ?_
  walk_at "wp"
  refine ⟨rfl, (table (m := m + 6) (nm := []) List.nodup_nil (by decide) (by omega) (by omega) (fun w hw => by rw [d3] at hw; exact hw)).mono ?_⟩
  rintro _ S2 ⟨rfl, f2⟩
  walk_at "wp"
  refine Y.of (show dNew [some (.loc n), some (.lst [.tup [.str "not", .tup [.str "yes"]], .tup [.str "same", .tup [.str "no"], .tup [.str "no"]], .tup [.str "yes"], .tup [.str "if", .tup [.str "yes"], .tup [.str "no"]], .tup [.str "no"]]), some x.u] S2 = .ok ([], []) S2 from rfl) ?_
  walk_at "wp"
  refine ⟨rfl, (law_value (zs := []) (ρ := rwT [] 0) x (m + 7) (by omega) (fun w hw => by rw [d3] at hw; exact hw)).mono ?_⟩
  rintro _ _ ⟨rfl, rfl⟩
  walk_at "wp"
  refine y_intB ?_
  refine y_eqI ?_
  refine ⟨?_, t1.fr f2 (by simp), f1.trans (f2.more (by simp))⟩
  have : ((rowN (fun r => x.ev (rwT [] r)) (2 ^ ([] : List Str).length) : Nat) : Int) = if x.ev (rwT [] 0) = true then 1 else 0 := by
    show ((rowN (fun r => x.ev (rwT [] r)) 1 : Nat) : Int) = _
    unfold rowN
    unfold rowN
    cases x.ev (rwT [] 0) <;> rfl
  rw [this, decide_eq_true rfl]
theorem law_sames_right {n : Nat} {b : Int} {ws : List Str} {x : Say} {S : Sto} (t0 : Tape n b S) (hb : b + 2000000 ≤ 2 ^ 100) (nd : ws.Nodup) (hl : ws.length = 12) (hx : ∀ w ∈ x.names, w ∈ ws.take 5) (dx : x.deep ≤ 12) (px : x.parts ≤ 100) :
    Y (call 59 i_law_sames_right [.loc n, x.u, .lst (ws.map .str)] S) fun u S' => u = .bl true ∧ Tape n (b + 2000000) S' ∧ Fr [n] S S' := by
  have hC : cst 10 ≤ 1000000 := by decide +kernel
  refine y_run ?_
  show WS (b_law_sames_right (call 58) [some (.loc n), some x.u, some (.lst (ws.map .str)), none, none, none, none, none] S) _
  unfold b_law_sames_right
  refine w_seq (w_asg ?_)
  walk_at "wp"
  refine ⟨rfl, (draw t0 (by omega) (by decide) (by decide)).mono ?_⟩
  rintro _ S1 ⟨r1, rfl, r10, r11, t1, l1, f1⟩
  obtain ⟨r, rfl⟩ := Int.eq_ofNat_of_zero_le r10
  walk_at "wp"
  refine ⟨_, rfl, ?_⟩
  refine y_slL ?_
  rw [show ((7 : Int) + (r : Int)) = ((7 + r : Nat) : Int) by omega, cut_pre, ← List.map_take]
  have hw5 : ∀ {k : Nat} {w : Str}, 5 ≤ k → w ∈ ws.take 5 → w ∈ ws.take k := fun {k w} h hw => by
    have e : ws.take 5 = (ws.take k).take 5 := by rw [List.take_take, Nat.min_eq_left h]
    rw [e] at hw
    exact List.mem_of_mem_take hw
  walk_at "wp"
  refine ⟨rfl, (law_but_one (m := 56) (L := ws.take (7 + r)) t1 (by omega) (nd.sublist (List.take_sublist _ _)) (by rw [List.length_take]; omega) (fun w hw => hw5 (by omega) (hx w hw)) (by omega)).mono ?_⟩
  rintro _ S2 ⟨y, e, rfl, he, hy, dy, py, t2, f2⟩
  have hyw : ∀ w ∈ y.names, w ∈ ws := fun w hw => List.mem_of_mem_take (hy w hw)
  have hxw : ∀ w ∈ x.names, w ∈ ws := fun w hw => List.mem_of_mem_take (hx w hw)
  refine ⟨_, rfl, ?_⟩
  have sm : ∀ {z1 z2 : Say} {S : Sto}, (∀ w ∈ z1.names, w ∈ ws) → (∀ w ∈ z2.names, w ∈ ws) → z1.deep ≤ 30 → z2.deep ≤ 30 → z1.parts ≤ 1000 → z2.parts ≤ 1000 → Y (call 58 i_same [z1.u, z2.u] S) fun u S' => ∃ b : Bool, u = .bl b ∧ (b = true ↔ ∀ ρ, z1.ev ρ = z2.ev ρ) ∧ Fr [] S S' := fun h1 h2 d1 d2 p1 p2 => same (m := 56) (ws := ws) (by omega) h1 h2 (by omega) (by omega) (by omega) (by omega)
  have bb : ∀ {b1 b2 : Bool} {P : Prop}, (b1 = true ↔ P) → (b2 = true ↔ P) → b1 = b2 := fun {b1 b2 P} h1 h2 => by
    cases b1 <;> cases b2
    · rfl
    · exact h1.mpr (h2.mp rfl)
    · exact (h2.mpr (h1.mp rfl)).symm
    · rfl
  refine w_seq (w_ifP' ?_)
  walk_at "wp"
  refine ⟨rfl, (sm hxw hyw (by omega) (by omega) (by omega) (by omega)).mono ?_⟩
  rintro _ S3 ⟨b3, rfl, h3, f3⟩
  obtain rfl := bb h3 he
  walk_at "wp"
  rw [beq_self_eq_true]
  refine ite_b (fun z => by cases z) (fun _ => ?_)
  walk_at "wp"
  refine ⟨rfl, (sm hyw hxw (by omega) (by omega) (by omega) (by omega)).mono ?_⟩
  rintro _ S4 ⟨b4, rfl, h4, f4⟩
  obtain rfl := bb (h4.trans ⟨fun h ρ => (h ρ).symm, fun h ρ => (h ρ).symm⟩) he
  walk_at "wp"
  rw [beq_self_eq_true]
  refine ⟨rfl, ?_⟩
  have t4 := (t2.fr f3 (by simp)).fr f4 (by simp)
  refine w_seq (w_set ?_)
  walk_at "wp"
  refine ⟨_, rfl, ?_⟩
  refine y_slL ?_
  rw [show (4 : Int) = ((4 : Nat) : Int) from rfl, cut_pre, ← List.map_take]
  walk_at "wp"
  have t5 : Tape n (b + 30 + 30) (S4 ++ [.lst [.int 8]]) := t4.fr (ms := []) Fr.push (by simp)
  have h5 : (S4 ++ [Ob.lst [.int 8]])[S4.length]? = some (.lst [.int 8]) := sto_snoc
  have hnf : n ≠ S4.length := by have := t4.lt; omega
  have f5 : Fr [] S4 (S4 ++ [Ob.lst [.int 8]]) := Fr.push
  have hle : S.length ≤ S4.length := Nat.le_trans (f1.trans f2).1 (f3.trans f4).1
  generalize S4 ++ [Ob.lst [.int 8]] = S5 at t5 h5 f5 ⊢
  generalize S4.length = f at h5 hnf hle ⊢
  have hsy := saying (ws := ws.take 4) hnf (by rw [List.length_take]; omega) (by rw [List.length_take]; omega) 10 46 t5 (by omega) h5
  refine ⟨rfl, hsy.mono ?_⟩
  rintro _ S6 ⟨z, L', rfl, hz, dz', -, hL', pz, t6, f6⟩
  have hL' := hL' (by decide)
  have dz : z.deep ≤ 12 := by omega
  have pz : z.parts ≤ 100 := by omega
  have hz5 : ∀ w ∈ z.names, w ∈ ws.take 5 := fun w hw => by
    have h4 := Say.on_names hz w hw
    have e : ws.take 4 = (ws.take 5).take 4 := by rw [List.take_take]; rfl
    rw [e] at h4
    exact List.mem_of_mem_take h4
  have t6 : Tape n (b + 30 + 30 + cst 10) S6 := t6
  have fa : Fr [n] S S5 := (((f1.trans f2).trans (f3.more (by simp))).trans (f4.more (by simp))).trans (f5.more (by simp))
  have f0 : Fr [n] S S6 := ⟨Nat.le_trans fa.1 f6.1, fun q hq hn => by
    rw [f6.2 q (Nat.lt_of_lt_of_le hq fa.1) (by simp at hn ⊢; omega)]
    exact fa.2 q hq hn⟩
  have hx5 := hx
  have hzw : ∀ w ∈ z.names, w ∈ ws := fun w hw => List.mem_of_mem_take (hz5 w hw)
  have h5l : (ws.take 5).length ≤ 8 := by rw [List.length_take]; omega
  have nd5 : (ws.take 5).Nodup := nd.sublist (List.take_sublist _ _)
  have hmem : ∀ v ∈ [z, Say.neg (.neg x), .bin .gives (.neg x) .no, .bin .and x z], (∀ w ∈ v.names, w ∈ ws.take 5) ∧ v.deep ≤ 20 ∧ v.parts ≤ 500 := fun v hv => by
    simp only [List.mem_cons, List.mem_nil_iff, or_false] at hv
    rcases hv with rfl | rfl | rfl | rfl
    · exact ⟨hz5, by omega, by omega⟩
    · exact ⟨hx, by show x.deep + 1 + 1 ≤ 20; omega, by show x.parts + 1 + 1 ≤ 500; omega⟩
    · refine ⟨fun w hw => ?_, by show max (x.deep + 1) 1 + 1 ≤ 20; omega, by show x.parts + 1 + 1 + 1 ≤ 500; omega⟩
      rcases List.mem_append.mp (show w ∈ x.names ++ [] from hw) with q | q
      · exact hx w q
      · cases q
    · refine ⟨fun w hw => ?_, by show max x.deep z.deep + 1 ≤ 20; omega, by show x.parts + z.parts + 1 ≤ 500; omega⟩
      rcases List.mem_append.mp (show w ∈ x.names ++ z.names from hw) with q | q
      · exact hx w q
      · exact hz5 w q
  refine w_seq (w_set ?_)
  walk_at "wp"
  refine ⟨_, rfl, ?_⟩
  refine w_loop (fun us d S7 => ∃ (vs : List Say) (x3 x4 x5 x6 x7 : Option U), us = vs.map Say.u ∧ (∀ v ∈ vs, (∀ w ∈ v.names, w ∈ ws.take 5) ∧ v.deep ≤ 20 ∧ v.parts ≤ 500) ∧ d = [some (.loc n), some x.u, some (.lst (ws.map .str)), x3, x4, x5, x6, x7] ∧ Fr [] S6 S7) ?_ ?_ _ _ _ ⟨[z, Say.neg (.neg x), .bin .gives (.neg x) .no, .bin .and x z], _, _, _, _, _, rfl, hmem, rfl, Fr.refl _ _⟩
  · rintro u us _ S7 ⟨vs, x3, x4, x5, x6, x7, e, hvs, rfl, f7⟩
    cases vs with
    | nil => cases e
    | cons v vs =>
      rw [List.map_cons] at e
      obtain ⟨e1, e2⟩ := List.cons.inj e
      subst e1
      obtain ⟨v1, v2, v3⟩ := hvs v List.mem_cons_self
      refine ⟨_, rfl, ?_⟩
      refine w_seq (w_set ?_)
      walk_at "wp"
      refine ⟨rfl, (sm hxw (fun w hw => List.mem_of_mem_take (v1 w hw)) (by omega) (by omega) (by omega) (by omega)).mono ?_⟩
      rintro _ S8 ⟨b8, rfl, h8, f8⟩
      refine w_ifP' ?_
      walk_at "wp"
      refine Y.of (show isiC [.bl b8, .ty "bool"] S8 = .ok (.bl true) S8 from rfl) ?_
      walk_at "wp"
      refine ite_b (fun z => by cases z) (fun _ => ?_)
      walk_at "wp"
      refine ⟨_, rfl, ?_⟩
      refine y_slL ?_
      rw [show (5 : Int) = ((5 : Nat) : Int) from rfl, cut_pre, ← List.map_take]
      walk_at "wp"
      refine ⟨rfl, (law_alike (m := 57) nd5 h5l hx v1 (by omega) (by omega)).mono ?_⟩
      rintro _ _ ⟨b9, rfl, h9, rfl⟩
      obtain rfl := bb h8 h9
      walk_at "wp"
      rw [beq_self_eq_true]
      exact ⟨rfl, vs, _, _, _, _, _, e2, fun v hv => hvs v (List.mem_cons_of_mem _ hv), rfl, f7.trans f8⟩
  · rintro d S7 ⟨vs, x3, x4, x5, x6, x7, e, hvs, rfl, f7⟩
    walk_at "wp"
    exact ⟨rfl, (t6.fr f7 (by simp)).mono (by omega), f0.trans (f7.more (by simp))⟩
inductive Rel2 (R : U → U → Prop) : List U → List U → Prop
  | nil : Rel2 R [] []
  | cons {u y : U} {us ys : List U} : R u y → Rel2 R us ys → Rel2 R (u :: us) (y :: ys)
theorem Rel2.snoc {R : U → U → Prop} {u y : U} : ∀ {us ys : List U}, Rel2 R us ys → R u y → Rel2 R (us ++ [u]) (ys ++ [y])
  | _, _, .nil, h => .cons h .nil
  | _, _, .cons r t, h => .cons r (t.snoc h)
theorem Rel2.len {R : U → U → Prop} : ∀ {us ys : List U}, Rel2 R us ys → ys.length = us.length
  | _, _, .nil => rfl
  | _, _, .cons _ t => by rw [List.length_cons, List.length_cons, t.len]
theorem comp_draw {n : Nat} {b : Int} {gt : U → En → Option En} {t : FT} {f : FE} {d : En} {S : Sto} (R : U → U → Prop) (c : Int) (hc : 0 ≤ c) (us : List U) (hm : us.length ≤ 100000) (t0 : Tape n b S)
    (h : ∀ u ∈ us, ∀ (b' : Int) (S1 : Sto), b' ≤ b + c * us.length → Tape n b' S1 → ∃ d1, gt u d = some d1 ∧ Y (t d1 S1) (fun bb S2 => bb = true ∧ S2 = S1) ∧ Y (f d1 S1) fun y S2 => R u y ∧ Tape n (b' + c) S2 ∧ Fr [n] S1 S2) :
    Y (compF gt t f d us [] S) fun ys S' => Rel2 R us ys ∧ Tape n (b + c * us.length) S' ∧ Fr [n] S S' := by
  refine (y_comp (Q := fun ys S' => Rel2 R us ys ∧ Tape n (b + c * us.length) S' ∧ Fr [n] S S')
    (fun us2 acc S' => ∃ done, us = done ++ us2 ∧ Rel2 R done acc ∧ Tape n (b + c * done.length) S' ∧ Fr [n] S S') ?_ ?_ _ _ _ ⟨[], rfl, .nil, t0.mono (by rw [List.length_nil]; omega), Fr.refl _ _⟩)
  · rintro u us2 acc S1 ⟨done, e, r, t1, f1⟩
    have hl := r.len
    have hlu := congrArg List.length e
    rw [List.length_append, List.length_cons] at hlu
    have hle : c * (done.length : Int) ≤ c * (us.length : Int) := Int.mul_le_mul_of_nonneg_left (by omega) hc
    obtain ⟨d1, e1, h1, h2⟩ := h u (by rw [e]; simp) (b + c * done.length) S1 (by omega) t1
    refine ⟨by rw [sizeL]; omega, d1, e1, h1.mono ?_⟩
    rintro _ _ ⟨rfl, rfl⟩
    refine h2.mono ?_
    rintro y S2 ⟨hy, t2, f2⟩
    refine ⟨done ++ [u], by rw [e, List.append_assoc]; rfl, r.snoc hy, t2.mono ?_, f1.trans f2⟩
    rw [List.length_append, List.length_singleton, Int.natCast_add, Int.mul_add]
    show _ ≤ b + (c * (done.length : Int) + c * 1)
    omega
  · rintro acc S1 ⟨done, e, r, t1, f1⟩
    rw [List.append_nil] at e
    subst e
    exact ⟨r, t1, f1⟩
theorem toDS_strs (zs : List Str) (S : Sto) : toDS (.lst (zs.map .str)) S = some (.list (zs.map .str)) := by
  show (toDs (zs.map .str)).map PyData.list = _
  rw [strs_D]
  rfl
theorem y_neNilS {zs : List Str} {S : Sto} {Q : U → Sto → Prop} (h : ∀ z ∈ zs, PyData.strOk z = true) (hq : Q (.bl (!zs.isEmpty)) S) : Y (neU (.lst (zs.map .str)) (.lst []) S) Q := by
  refine y_neD (a := .list (zs.map .str)) (b := .list []) (toDS_strs zs S) rfl (strs_shaped h) (by decide) rfl ?_
  rw [eqv_nil]
  cases zs <;> exact hq
theorem y_neW {w : Str} {S : Sto} {Q : U → Sto → Prop} (hw : PyData.strOk w = true) (h : Q (.bl false) S) : Y (neU (.tup [.str w]) (.tup [.str w]) S) Q := by
  refine y_neSame (a := .tuple [.str w]) rfl rfl ?_ rfl h
  unfold SeqAt.shaped
  rw [show PyData.canLay0 (.tuple [.str w]) = true from by
    unfold PyData.canLay0 PyData.canLayAll0 PyData.canLayAll0
    rw [show PyData.canLay0 (.str w) = true from hw]
    rfl]
  rfl
theorem law_numbers {O : List Str} {x : Say} {S : Sto} {Ns : List Nat} {x0 x1 x2 x3 x5 x6 x8 x10 x11 x12 x13 : Option U} (nd : O.Nodup) (hl : O.length ≤ 12) (hx : ∀ w ∈ x.names, w ∈ O) (dx : x.deep ≤ 59) (hN : ∀ r ∈ Ns, r < 2 ^ O.length) :
    WS (loopF (gN 12) (fIfS (fB (f2 neU (f2 eqU (f2 andU (f2 shrU (fVar 9) (fVar 12)) (fC (.int 1))) (fC (.int 1))) (fCall 2 (call 59 i_law_value) (aCons (fVar 4) (aCons (fCall 2 (call 59 i_law_row) (aCons (fVar 7) (aCons (fVar 12) aNil))) aNil))))) (fRet (fC (.bl false))) fNop) (Ns.map fun (r : Nat) => U.int (r : Int)) [x0, x1, x2, x3, some x.u, x5, x6, some (.lst (O.map .str)), x8, some (tabU O x), x10, x11, x12, x13] S) { nx := fun d S' => ∃ y12, d = [x0, x1, x2, x3, some x.u, x5, x6, some (.lst (O.map .str)), x8, some (tabU O x), x10, x11, y12, x13] ∧ S' = S, rt := fun _ _ => False } := by
  refine w_loop (fun us d S' => ∃ (l : List Nat) (y12 : Option U), us = l.map (fun (r : Nat) => U.int (r : Int)) ∧ (∀ r ∈ l, r < 2 ^ O.length) ∧ d = [x0, x1, x2, x3, some x.u, x5, x6, some (.lst (O.map .str)), x8, some (tabU O x), x10, x11, y12, x13] ∧ S' = S) ?_ ?_ _ _ _ ⟨Ns, _, rfl, hN, rfl, rfl⟩
  · rintro u us _ _ ⟨l, y12, e, hl2, rfl, rfl⟩
    cases l with
    | nil => cases e
    | cons r l =>
      rw [List.map_cons] at e
      obtain ⟨e1, eT⟩ := List.cons.inj e
      subst e1
      have hr := hl2 r List.mem_cons_self
      refine ⟨_, rfl, ?_⟩
      refine w_ifP' ?_
      walk_at "wp"
      refine y_shrI (by omega) ?_
      walk_at "wp"
      refine y_andI ?_
      rw [Int.toNat_natCast, show ∀ a : Nat, ((a : Int) / 2 ^ r) = ((a / 2 ^ r : Nat) : Int) from fun a => by rw [Int.natCast_ediv, Int.natCast_pow]; rfl, bit_one]
      walk_at "wp"
      refine ⟨rfl, (law_row (k := 58) nd (by omega)).mono ?_⟩
      rintro _ S ⟨rfl, rfl⟩
      walk_at "wp"
      refine ⟨rfl, (law_value x 59 dx hx).mono ?_⟩
      rintro _ S ⟨rfl, rfl⟩
      have e1 : x.ev (bitsT O r) = x.ev (rwT O r) := ev_same fun w hw => (rwT_bits nd r (hx w hw)).symm
      have e2 : decide ((((rowN (fun r => x.ev (rwT O r)) (2 ^ O.length) / 2 ^ r % 2 : Nat) : Int)) = 1) = x.ev (rwT O r) := by
        have h := tab_bit (x := x) hr
        cases q : x.ev (rwT O r) with
        | true => exact decide_eq_true (by have := h.mpr q; omega)
        | false =>
          refine decide_eq_false fun z => ?_
          have h2 := h.mp (by omega)
          rw [q] at h2
          cases h2
      rw [e1]
      walk_at "wp"
      rw [e2, beq_self_eq_true]
      exact ⟨rfl, l, _, eT, fun r h => hl2 r (List.mem_cons_of_mem _ h), rfl, rfl⟩
  · rintro d _ ⟨l, y12, e, hl2, rfl, rfl⟩
    exact ⟨_, rfl, rfl⟩
theorem rel_nats : ∀ {us ys : List U}, Rel2 (fun _ y => ∃ r : Nat, r < 4096 ∧ y = .int (r : Int)) us ys → ∃ Ns : List Nat, ys = Ns.map (fun (r : Nat) => U.int (r : Int)) ∧ ∀ r ∈ Ns, r < 4096
  | _, _, .nil => ⟨[], rfl, fun r h => by cases h⟩
  | _, _, .cons ⟨r, h, e⟩ t => by
    obtain ⟨Ns, e2, h2⟩ := rel_nats t
    exact ⟨r :: Ns, by rw [e, e2]; rfl, fun x hx => (List.mem_cons.mp hx).elim (fun z => by rw [z]; exact h) (h2 x)⟩
theorem lack_find {O l : List Str} : (l.filter fun w => !decide (w ∈ O)).head? = l.find? fun n => !decide (n ∈ O) := List.head?_filter ..
theorem order_ok {ws A : List Str} {f : Nat} {k : Int} (nd : ws.Nodup) (hA : ∃ m, A = ws.take m) : (stepV k (A.drop f ++ A.take f)).Nodup ∧ (∀ w ∈ stepV k (A.drop f ++ A.take f), w ∈ ws) ∧ (stepV k (A.drop f ++ A.take f)).length = A.length := by
  obtain ⟨m, rfl⟩ := hA
  have p : (stepV k ((ws.take m).drop f ++ (ws.take m).take f)).Perm (ws.take m) := by
    have p1 : ((ws.take m).drop f ++ (ws.take m).take f).Perm (ws.take m) := by
      have := List.perm_append_comm (l₁ := (ws.take m).drop f) (l₂ := (ws.take m).take f)
      rwa [List.take_append_drop] at this
    unfold stepV
    split
    · exact p1
    · exact (List.reverse_perm _).trans p1
  exact ⟨p.nodup_iff.mpr (nd.sublist (List.take_sublist _ _)), fun w hw => List.mem_of_mem_take (p.mem_iff.mp hw), p.length_eq⟩
theorem step_map (k : Int) (l : List Str) : stepV k (l.map U.str) = (stepV k l).map .str := by
  unfold stepV
  split
  · rfl
  · rw [List.map_reverse]
set_option maxHeartbeats 4000000 in
theorem law_holds (ns : List Int) (hn : ns.length ≤ 63) : ∃ S', call 60 i_law [.frz (ns.map .int)] [] = .ok (.bl true) S' := by
  suffices h : Y (call 60 i_law [.frz (ns.map .int)] []) fun u _ => u = .bl true by
    obtain ⟨u, S', e, rfl⟩ := h.ok
    exact ⟨S', e⟩
  refine y_run ?_
  show WS (b_law (call 59) [some (.frz (ns.map .int)), none, none, none, none, none, none, none, none, none, none, none, none, none] []) _
  unfold b_law
  walk_at "wp"
  refine ⟨rfl, (tape (k := 58) ns hn []).mono ?_⟩
  rintro _ S0 ⟨rfl, t0, -⟩
  generalize List.length ([] : Sto) = n at t0 ⊢
  walk_at "wp"
  refine ⟨rfl, (words (k := 57) (m := 12) t0 (by decide) (by decide)).mono ?_⟩
  rintro _ S1 ⟨ws, rfl, hws, hww, nd, t1, f1⟩
  have hC : cst 10 ≤ 1000000 := by decide +kernel
  have hok : ∀ w, w ∈ ws → PyData.strOk w = true := fun w h => (hww w h).1.1.ok
  refine w_seq (w_ifP' ?_)
  walk_at "wp"
  refine ⟨rfl, (law_bare_right (m := 51) t1 (by decide)).mono ?_⟩
  rintro _ S2 ⟨rfl, t2, f2⟩
  walk_at "wp"
  refine ⟨rfl, ?_⟩
  refine w_seq (w_for (y_rng1 ?_))
  walk_at "wp"
  refine ⟨4, rfl, by decide, by decide, ?_⟩
  refine w_loop (fun us d S3 => ∃ (j : Nat) (x3 x4 x5 x6 x7 x8 x9 x10 x11 x12 x13 : Option U), d = [some (.frz (ns.map .int)), some (.loc n), some (.lst (ws.map .str)), x3, x4, x5, x6, x7, x8, x9, x10, x11, x12, x13] ∧ us.length + j = 4 ∧ Tape n (10000 + 5000000 * (j : Int)) S3) ?_ ?_ _ _ _ ⟨0, _, _, _, _, _, _, _, _, _, _, _, rfl, rfl, t2.mono (by decide)⟩
  · rintro u us _ S3 ⟨j, x3, x4, x5, x6, x7, x8, x9, x10, x11, x12, x13, rfl, hu, t3⟩
    rw [List.length_cons] at hu
    have hj : j ≤ 3 := by omega
    have hb3 : (10000 : Int) + 5000000 * (j : Int) ≤ 30000000 := by omega
    generalize hbb : (10000 : Int) + 5000000 * (j : Int) = b at t3 hb3
    refine ⟨_, rfl, ?_⟩
    -- the saying
    walk_at "wp"
    refine ⟨_, rfl, ?_⟩
    refine y_slL ?_
    rw [show (5 : Int) = ((5 : Nat) : Int) from rfl, cut_pre, ← List.map_take]
    walk_at "wp"
    refine ⟨rfl, (draw t3 (by omega) (by first | decide | omega) (by first | decide | omega)).mono ?_⟩; rintro _ S4 ⟨r4, rfl, r40, r41, t4, l4, f4⟩
    refine y_ixL r40 r41 fun L hL _ => ?_
    obtain ⟨L, rfl, hL0, hL1⟩ : ∃ i : Int, L = .int i ∧ 0 ≤ i ∧ i ≤ 60 := by
      simp only [List.mem_cons, List.mem_nil_iff, or_false] at hL
      rcases hL with rfl | rfl <;> exact ⟨_, rfl, by decide, by decide⟩
    walk_at "wp"
    have t5 : Tape n (b + 30) (S4 ++ [.lst [.int L]]) := t4.fr (ms := []) Fr.push (by simp)
    have h5 : (S4 ++ [Ob.lst [.int L]])[S4.length]? = some (.lst [.int L]) := sto_snoc
    have hnf : n ≠ S4.length := by have := t4.lt; omega
    generalize S4 ++ [Ob.lst [.int L]] = S5 at t5 h5 ⊢
    generalize S4.length = f at h5 hnf ⊢
    refine ⟨rfl, (saying (ws := ws.take 5) hnf (by rw [List.length_take]; omega) (by rw [List.length_take]; omega) 10 47 t5 (by omega) h5).mono ?_⟩
    rintro _ S6 ⟨x, L', rfl, hx, dx, -, hL', px, t6, -⟩
    have hL' := hL' hL0
    have dx : x.deep ≤ 10 := by omega
    have px : x.parts ≤ 100 := by omega
    have hx5 : ∀ w ∈ x.names, w ∈ ws.take 5 := fun w hw => Say.on_names hx w hw
    have hxw : ∀ w ∈ x.names, w ∈ ws := fun w hw => List.mem_of_mem_take (hx5 w hw)
    have t6 : Tape n (b + 1000030) S6 := Tape.mono t6 (by omega)
    clear t3 t4 t5 h5 hnf
    -- how many names, in which order
    refine w_seq (w_set ?_)
    walk_at "wp"
    refine ⟨rfl, (draw t6 (by omega) (by first | decide | omega) (by first | decide | omega)).mono ?_⟩; rintro _ S7 ⟨r7, rfl, r70, r71, t7, l7, f7⟩
    walk_at "wp"
    refine ⟨rfl, (draw t7 (by omega) (by first | decide | omega) (by first | decide | omega)).mono ?_⟩; rintro _ S8 ⟨r8, rfl, r80, r81, t8, l8, f8⟩
    refine y_ixL r80 r81 fun M hM _ => ?_
    obtain ⟨M, rfl, hM1, hM2, hM3⟩ : ∃ i : Nat, M = .int (i : Int) ∧ 1 ≤ i ∧ i ≤ 12 ∧ (i < 7 ∨ i = 12) := by
      simp only [List.mem_cons, List.mem_nil_iff, or_false] at hM
      rcases hM with rfl | rfl | rfl | rfl
      · exact ⟨5, rfl, by decide, by decide, .inl (by decide)⟩
      · exact ⟨5, rfl, by decide, by decide, .inl (by decide)⟩
      · exact ⟨12, rfl, by decide, by decide, .inr rfl⟩
      · exact ⟨(1 + r7).toNat, by rw [Int.toNat_of_nonneg (by omega)], by omega, by omega, .inl (by omega)⟩
    walk_at "wp"
    refine ⟨rfl, (draw t8 (by omega) (by first | decide | omega) (by first | decide | omega)).mono ?_⟩; rintro _ S9 ⟨r9, rfl, r90, r91, t9, l9, f9⟩
    obtain ⟨F, rfl⟩ := Int.eq_ofNat_of_zero_le r90
    refine w_seq (w_set (y_val (y_step ?_)))
    walk_at "wp"
    refine ⟨_, rfl, ?_⟩
    refine y_slL ?_
    rw [cut_pre, ← List.map_take]
    walk_at "wp"
    refine ⟨_, rfl, ?_⟩
    walk_at "wp"
    refine y_slL ?_
    rw [cut_suf, ← List.map_drop]
    walk_at "wp"
    refine ⟨_, rfl, ?_⟩
    refine y_slL ?_
    rw [cut_pre, ← List.map_take]
    walk_at "wp"
    refine ⟨_, rfl, ?_⟩
    refine y_slL ?_
    rw [cut_pre, ← List.map_take]
    refine y_addL (by rw [List.length_map, List.length_map, List.length_drop, List.length_take, List.length_take, List.length_take, sizeL]; omega) ?_
    rw [← List.map_append]
    walk_at "wp"
    refine y_negI ?_
    walk_at "wp"
    refine ⟨rfl, (draw t9 (by omega) (by first | decide | omega) (by first | decide | omega)).mono ?_⟩; rintro _ S10 ⟨r10, rfl, r100, r101, t10, l10, f10⟩
    refine y_ixL r100 r101 fun K hK _ => ?_
    obtain ⟨K, rfl, hK1⟩ : ∃ k : Int, K = .int k ∧ (k = 1 ∨ k = -1) := by
      simp only [List.mem_cons, List.mem_nil_iff, or_false] at hK
      rcases hK with rfl | rfl
      · exact ⟨_, rfl, .inl rfl⟩
      · exact ⟨_, rfl, .inr rfl⟩
    refine ⟨_, K, rfl, rfl, hK1, ?_⟩
    rw [step_map]
    obtain ⟨ndO, hOw, hOl⟩ := order_ok (ws := ws) (A := ws.take M) (f := F) (k := K) nd ⟨M, rfl⟩
    rw [List.length_take] at hOl
    have hOl : (stepV K ((ws.take M).drop F ++ (ws.take M).take F)).length = M := by rw [hOl, hws]; omega
    generalize stepV K ((ws.take M).drop F ++ (ws.take M).take F) = O at ndO hOw hOl
    have t10 : Tape n (b + 2000000) S10 := t10.mono (by omega)
    clear t6 t7 t8 t9
    have hO14 : O.length ≤ 14 := by omega
    -- what is lacking
    refine w_seq (w_set ?_)
    walk_at "wp"
    refine ⟨rfl, (names_of x 58 (by omega) (by omega)).mono ?_⟩
    rintro _ S11 ⟨rfl, f11⟩
    have hsok : ∀ w ∈ snm x, PyData.strOk w = true := fun w hw => hok w (hxw w (nubT_mem.mp (sort_mem.mp hw)))
    have hsl := snm_sub hxw
    refine ⟨_, rfl, ?_⟩
    refine y_compFX (fun w : Str => U.str w) (fun w => !decide (w ∈ O)) (fun w => .str w) (snm x) [] (fun w hw => ?_) (by rw [List.length_nil, sizeL]; omega) ?_
    · refine ⟨_, rfl, ?_, fun _ => ?_⟩
      · refine y_B ?_
        walk_at "wp"
        refine y_ninLs O rfl ?_
        walk_at "wp"
        exact ⟨rfl, rfl⟩
      · walk_at "wp"
        exact ⟨rfl, rfl⟩
    rw [List.nil_append]
    have hlk := lack_find (O := O) (l := snm x)
    have hlm : ∀ w ∈ (snm x).filter (fun w => !decide (w ∈ O)), w ∈ snm x := fun w hw => (List.mem_filter.mp hw).1
    have hln : (snm x).filter (fun w => !decide (w ∈ O)) = [] → ∀ w ∈ x.names, w ∈ O := fun h w hw => by
      have := List.filter_eq_nil_iff.mp h w (sort_mem.mpr (nubT_mem.mpr hw))
      simpa using this
    generalize (snm x).filter (fun w => !decide (w ∈ O)) = lk at hlk hlm hln
    refine w_seq (w_set ?_)
    walk_at "wp"
    refine Y.of (show listC [.lst (O.map .str)] S11 = .ok (O.map .str) S11 from rfl) ?_
    walk_at "wp"
    refine ⟨rfl, (law_told (m := 57) ndO hO14 (by omega) (by omega)).mono ?_⟩
    rintro _ S12 ⟨rfl, f12⟩
    have t12 := (t10.fr f11 (by simp)).fr f12 (by simp)
    refine w_seq (WS.mono (D := { nx := fun d S13 => ∃ (y3 y11 y12 y13 : Option U), d = [some (.frz (ns.map .int)), some (.loc n), some (.lst (ws.map .str)), y3, some x.u, some (.int (M : Int)), some (.int (F : Int)), some (.lst (O.map .str)), some (.lst (lk.map .str)), some (toldT x O), x10, y11, y12, y13] ∧ Tape n (b + 2001200) S13, rt := fun _ _ => False }) ?_ (fun d13 S13 hh => ?_) (fun _ _ z => z.elim) (fun _ _ z => z.elim) (fun _ _ z => z.elim) (fun _ _ _ z => z.elim))
    · refine w_if ?_
      walk_at "wp"
      refine y_neNilS (fun w hw => hsok w (hlm w hw)) ?_
      walk_at "wp"
      cases lk with
      | cons w lk =>
        refine ite_b (fun _ => ?_) (fun z => by cases z)
        have ht : toldT x O = .tup [.str w] := by
          unfold toldT
          rw [← hlk]
          rfl
        rw [ht]
        refine w_ifP' ?_
        walk_at "wp"
        refine y_ixLst (i := 0) rfl ?_
        walk_at "wp"
        refine y_neW (hsok w (hlm w List.mem_cons_self)) ?_
        walk_at "wp"
        exact ⟨rfl, _, _, _, _, rfl, t12.mono (by omega)⟩
      | nil =>
        refine ite_b (fun z => by cases z) (fun _ => ?_)
        have ht : toldT x O = tabU O x := by
          unfold toldT
          rw [← hlk]
          rfl
        rw [ht]
        have hxO := hln rfl
        have h2M : 2 ^ O.length ≤ 4096 := Nat.le_trans (Nat.pow_le_pow_right (by decide) (by omega : O.length ≤ 12)) (by decide)
        have hlt := rowN_lt (fun r => x.ev (rwT O r)) (2 ^ O.length)
        refine w_if ?_
        walk_at "wp"
        refine Y.of (show isiC [tabU O x, .ty "bool"] S12 = .ok (.bl false) S12 from rfl) ?_
        walk_at "wp"
        refine ite_b (fun z => by cases z) (fun _ => ?_)
        walk_at "wp"
        refine Y.of (show isiC [tabU O x, .ty "int"] S12 = .ok (.bl true) S12 from rfl) ?_
        walk_at "wp"
        refine ite_b (fun z => by cases z) (fun _ => ?_)
        walk_at "wp"
        refine ite_b (fun _ => ?_) (fun z => absurd (decide_eq_true (Int.natCast_nonneg _)) (by rw [z]; decide))
        walk_at "wp"
        refine y_shlM (by omega) ?_
        have h2M2 : 2 ^ M ≤ 4096 := by rw [← hOl]; exact h2M
        refine y_shlM (by omega) ?_
        walk_at "wp"
        rw [decide_eq_true (show ((rowN (fun r => x.ev (rwT O r)) (2 ^ O.length) : Nat) : Int) < ((2 ^ 2 ^ M : Nat) : Int) by rw [← hOl]; exact Int.ofNat_lt.mpr hlt)]
        refine ite_b (fun z => by cases z) (fun _ => ?_)
        -- the numbers
        refine w_seq (WS.mono (D := { nx := fun d S13 => ∃ (Ns : List Nat) (y3 y12 y13 : Option U), d = [some (.frz (ns.map .int)), some (.loc n), some (.lst (ws.map .str)), y3, some x.u, some (.int (M : Int)), some (.int (F : Int)), some (.lst (O.map .str)), some (.lst ((([] : List Str)).map .str)), some (tabU O x), x10, some (.lst (Ns.map fun (r : Nat) => U.int (r : Int))), y12, y13] ∧ (∀ r ∈ Ns, r < 2 ^ O.length) ∧ Tape n (b + 2001200) S13, rt := fun _ _ => False }) ?_ (fun d13 S13 hh => ?_) (fun _ _ z => z.elim) (fun _ _ z => z.elim) (fun _ _ z => z.elim) (fun _ _ _ z => z.elim))
        · refine w_set (y_if ?_)
          walk_at "wp"
          refine ite_b (fun z => ?_) (fun z => ?_)
          · refine y_val (y_lrg ?_)
            walk_at "wp"
            refine y_shlM (by omega) ?_
            refine ⟨2 ^ M, rfl, by omega, List.range (2 ^ M), _, _, _, rfl, fun r hr => ?_, t12.mono (by omega)⟩
            rw [hOl]
            exact List.mem_range.mp hr
          · have hM12 : M = 12 := by
              have := of_decide_eq_false z
              omega
            walk_at "wp"
            refine ⟨40, rfl, by decide, by decide, ?_⟩
            have hrl : ((rngU 0 1 (Int.toNat 40)).length : Int) = 40 := by rw [rng_len]; rfl
            refine (comp_draw (fun _ y => ∃ r : Nat, r < 4096 ∧ y = .int (r : Int)) 30 (by decide) _ (by decide) t12 fun u hu b' S1 hb' t' => ?_).mono ?_
            · refine ⟨_, rfl, ⟨rfl, rfl⟩, ?_⟩
              walk_at "wp"
              refine ⟨rfl, (draw t' (by omega) (by decide) (by decide)).mono ?_⟩
              rintro _ S2 ⟨q, rfl, q0, q1, tq, lq, fq⟩
              obtain ⟨r, rfl⟩ := Int.eq_ofNat_of_zero_le q0
              exact ⟨⟨r, by omega, rfl⟩, tq, fq⟩
            rintro ys S14 ⟨hR, t14, f14⟩
            obtain ⟨Ns, rfl, hNs⟩ := rel_nats hR
            rw [hrl] at t14
            walk_at "wp"
            refine y_addL (by have := hR.len; rw [rng_len] at this; rw [this, sizeL]; decide) ?_
            refine ⟨Ns ++ [0, 4095], _, _, _, by rw [List.map_append]; rfl, fun r hr => ?_, t14.mono (by omega)⟩
            rw [hOl, hM12]
            rcases List.mem_append.mp hr with q | q
            · exact hNs r q
            · simp only [List.mem_cons, List.mem_nil_iff, or_false] at q
              rcases q with rfl | rfl <;> decide
        obtain ⟨Ns, y3, y12, y13, rfl, hN, t13⟩ := hh
        refine w_for ?_
        walk_at "wp"
        refine ⟨_, rfl, ?_⟩
        refine WS.mono (law_numbers ndO (by omega) hxO (by omega) hN) (fun d14 S14 hh => ?_) (fun _ _ z => z.elim) (fun _ _ z => z.elim) (fun _ _ z => z.elim) (fun _ _ _ z => z.elim)
        obtain ⟨y, rfl, rfl⟩ := hh
        exact ⟨_, _, _, _, rfl, t13⟩
    obtain ⟨y3, y11, y12, y13, rfl, t13⟩ := hh
    refine w_ifP' ?_
    walk_at "wp"
    refine ⟨rfl, (law_sames_right t13 (by omega) nd hws hx5 (by omega) px).mono ?_⟩
    rintro _ S14 ⟨rfl, t14, f14⟩
    walk_at "wp"
    exact ⟨rfl, j + 1, _, _, _, _, _, _, _, _, _, _, _, rfl, by omega, t14.mono (by rw [← hbb]; push_cast; omega)⟩
  · rintro d S3 ⟨j, x3, x4, x5, x6, x7, x8, x9, x10, x11, x12, x13, rfl, hu, t3⟩
    walk_at "wp"
    rfl
set_option maxHeartbeats 8000000 in
theorem all_mk {w : World} {K : PySem.W.Frag} {h : Heap} {mg : Str → Option Value} {fa : Addr} (X : K.In h) (G : h.Ns mainGlobals mg) (hfa : mg "law" = some (.ref fa))
    {x_collect : Addr} {od_collect an_collect : Option Addr} {sl_collect : Array (Option Value)} {oc_collect kV_collect dc_collect pm_collect cd_collect ct_collect : Value}
    {x_names_of : Addr} {od_names_of an_names_of : Option Addr} {sl_names_of : Array (Option Value)} {oc_names_of kV_names_of dc_names_of pm_names_of cd_names_of ct_names_of : Value}
    {x_need_names : Addr} {od_need_names an_need_names : Option Addr} {sl_need_names : Array (Option Value)} {oc_need_names kV_need_names dc_need_names pm_need_names cd_need_names ct_need_names : Value}
    {x_full_of : Addr} {od_full_of an_full_of : Option Addr} {sl_full_of : Array (Option Value)} {oc_full_of kV_full_of dc_full_of pm_full_of cd_full_of ct_full_of : Value}
    {x_table_of_name : Addr} {od_table_of_name an_table_of_name : Option Addr} {sl_table_of_name : Array (Option Value)} {oc_table_of_name kV_table_of_name dc_table_of_name pm_table_of_name cd_table_of_name ct_table_of_name : Value}
    {x_joined_tables : Addr} {od_joined_tables an_joined_tables : Option Addr} {sl_joined_tables : Array (Option Value)} {oc_joined_tables kV_joined_tables dc_joined_tables pm_joined_tables cd_joined_tables ct_joined_tables : Value}
    {x_table_in : Addr} {od_table_in an_table_in : Option Addr} {sl_table_in : Array (Option Value)} {oc_table_in kV_table_in dc_table_in pm_table_in cd_table_in ct_table_in : Value}
    {x_table : Addr} {od_table an_table : Option Addr} {sl_table : Array (Option Value)} {oc_table kV_table dc_table pm_table cd_table ct_table : Value}
    {x_same : Addr} {od_same an_same : Option Addr} {sl_same : Array (Option Value)} {oc_same kV_same dc_same pm_same cd_same ct_same : Value}
    {x__law_tape : Addr} {od__law_tape an__law_tape : Option Addr} {sl__law_tape : Array (Option Value)} {oc__law_tape kV__law_tape dc__law_tape pm__law_tape cd__law_tape ct__law_tape : Value}
    {x__law_draw : Addr} {od__law_draw an__law_draw : Option Addr} {sl__law_draw : Array (Option Value)} {oc__law_draw kV__law_draw dc__law_draw pm__law_draw cd__law_draw ct__law_draw : Value}
    {x__law_words : Addr} {od__law_words an__law_words : Option Addr} {sl__law_words : Array (Option Value)} {oc__law_words kV__law_words dc__law_words pm__law_words cd__law_words ct__law_words : Value}
    {x__law_saying : Addr} {od__law_saying an__law_saying : Option Addr} {sl__law_saying : Array (Option Value)} {oc__law_saying kV__law_saying dc__law_saying pm__law_saying cd__law_saying ct__law_saying : Value}
    {x__law_value : Addr} {od__law_value an__law_value : Option Addr} {sl__law_value : Array (Option Value)} {oc__law_value kV__law_value dc__law_value pm__law_value cd__law_value ct__law_value : Value}
    {x__law_row : Addr} {od__law_row an__law_row : Option Addr} {sl__law_row : Array (Option Value)} {oc__law_row kV__law_row dc__law_row pm__law_row cd__law_row ct__law_row : Value}
    {x__law_told : Addr} {od__law_told an__law_told : Option Addr} {sl__law_told : Array (Option Value)} {oc__law_told kV__law_told dc__law_told pm__law_told cd__law_told ct__law_told : Value}
    {x__law_alike : Addr} {od__law_alike an__law_alike : Option Addr} {sl__law_alike : Array (Option Value)} {oc__law_alike kV__law_alike dc__law_alike pm__law_alike cd__law_alike ct__law_alike : Value}
    {x__law_but_one : Addr} {od__law_but_one an__law_but_one : Option Addr} {sl__law_but_one : Array (Option Value)} {oc__law_but_one kV__law_but_one dc__law_but_one pm__law_but_one cd__law_but_one ct__law_but_one : Value}
    {x__law_bare_right : Addr} {od__law_bare_right an__law_bare_right : Option Addr} {sl__law_bare_right : Array (Option Value)} {oc__law_bare_right kV__law_bare_right dc__law_bare_right pm__law_bare_right cd__law_bare_right ct__law_bare_right : Value}
    {x__law_sames_right : Addr} {od__law_sames_right an__law_sames_right : Option Addr} {sl__law_sames_right : Array (Option Value)} {oc__law_sames_right kV__law_sames_right dc__law_sames_right pm__law_sames_right cd__law_sames_right ct__law_sames_right : Value}
    {x_law : Addr} {od_law an_law : Option Addr} {sl_law : Array (Option Value)} {oc_law kV_law dc_law pm_law cd_law ct_law : Value}
    {x_NoName xi_NoName : Addr} {nm_NoName qn_NoName : Str} {N_NoName : Addr} {bs_NoName : List Value} {sn_NoName : List Str} {sb_NoName : List Value} {ab_NoName : Bool} {cl_NoName : Option Bool} {dd_NoName : Option Addr} {q0_NoName q1_NoName q2_NoName q3_NoName q5_NoName : Option Value} {od_NoName an_NoName : Option Addr} {sl_NoName : Array (Option Value)} {oc_NoName kV_NoName dc_NoName pm_NoName cd_NoName ct_NoName : Value}
    (a_collect : PySem.W.nsIn K mainGlobals "collect" = some (some (.ref x_collect)))
    (l_collect : K.lookup x_collect = some ⟨oc_collect, od_collect, .func (PySem.W.fnOf "collect" "collect" (defArgs s_collect) (defBody s_collect) (defScope s_collect) .none kV_collect dc_collect pm_collect an_collect cd_collect ct_collect), sl_collect⟩)
    (c_collect : PySem.W.codeIn K cd_collect "collect" = true)
    (k_collect : PySem.W.keepIn K (.ref x_collect) = true)
    (a_names_of : PySem.W.nsIn K mainGlobals "names_of" = some (some (.ref x_names_of)))
    (l_names_of : K.lookup x_names_of = some ⟨oc_names_of, od_names_of, .func (PySem.W.fnOf "names_of" "names_of" (defArgs s_names_of) (defBody s_names_of) (defScope s_names_of) .none kV_names_of dc_names_of pm_names_of an_names_of cd_names_of ct_names_of), sl_names_of⟩)
    (c_names_of : PySem.W.codeIn K cd_names_of "names_of" = true)
    (k_names_of : PySem.W.keepIn K (.ref x_names_of) = true)
    (a_need_names : PySem.W.nsIn K mainGlobals "need_names" = some (some (.ref x_need_names)))
    (l_need_names : K.lookup x_need_names = some ⟨oc_need_names, od_need_names, .func (PySem.W.fnOf "need_names" "need_names" (defArgs s_need_names) (defBody s_need_names) (defScope s_need_names) .none kV_need_names dc_need_names pm_need_names an_need_names cd_need_names ct_need_names), sl_need_names⟩)
    (c_need_names : PySem.W.codeIn K cd_need_names "need_names" = true)
    (k_need_names : PySem.W.keepIn K (.ref x_need_names) = true)
    (a_full_of : PySem.W.nsIn K mainGlobals "full_of" = some (some (.ref x_full_of)))
    (l_full_of : K.lookup x_full_of = some ⟨oc_full_of, od_full_of, .func (PySem.W.fnOf "full_of" "full_of" (defArgs s_full_of) (defBody s_full_of) (defScope s_full_of) .none kV_full_of dc_full_of pm_full_of an_full_of cd_full_of ct_full_of), sl_full_of⟩)
    (c_full_of : PySem.W.codeIn K cd_full_of "full_of" = true)
    (k_full_of : PySem.W.keepIn K (.ref x_full_of) = true)
    (a_table_of_name : PySem.W.nsIn K mainGlobals "table_of_name" = some (some (.ref x_table_of_name)))
    (l_table_of_name : K.lookup x_table_of_name = some ⟨oc_table_of_name, od_table_of_name, .func (PySem.W.fnOf "table_of_name" "table_of_name" (defArgs s_table_of_name) (defBody s_table_of_name) (defScope s_table_of_name) .none kV_table_of_name dc_table_of_name pm_table_of_name an_table_of_name cd_table_of_name ct_table_of_name), sl_table_of_name⟩)
    (c_table_of_name : PySem.W.codeIn K cd_table_of_name "table_of_name" = true)
    (k_table_of_name : PySem.W.keepIn K (.ref x_table_of_name) = true)
    (a_joined_tables : PySem.W.nsIn K mainGlobals "joined_tables" = some (some (.ref x_joined_tables)))
    (l_joined_tables : K.lookup x_joined_tables = some ⟨oc_joined_tables, od_joined_tables, .func (PySem.W.fnOf "joined_tables" "joined_tables" (defArgs s_joined_tables) (defBody s_joined_tables) (defScope s_joined_tables) .none kV_joined_tables dc_joined_tables pm_joined_tables an_joined_tables cd_joined_tables ct_joined_tables), sl_joined_tables⟩)
    (c_joined_tables : PySem.W.codeIn K cd_joined_tables "joined_tables" = true)
    (k_joined_tables : PySem.W.keepIn K (.ref x_joined_tables) = true)
    (a_table_in : PySem.W.nsIn K mainGlobals "table_in" = some (some (.ref x_table_in)))
    (l_table_in : K.lookup x_table_in = some ⟨oc_table_in, od_table_in, .func (PySem.W.fnOf "table_in" "table_in" (defArgs s_table_in) (defBody s_table_in) (defScope s_table_in) .none kV_table_in dc_table_in pm_table_in an_table_in cd_table_in ct_table_in), sl_table_in⟩)
    (c_table_in : PySem.W.codeIn K cd_table_in "table_in" = true)
    (k_table_in : PySem.W.keepIn K (.ref x_table_in) = true)
    (a_table : PySem.W.nsIn K mainGlobals "table" = some (some (.ref x_table)))
    (l_table : K.lookup x_table = some ⟨oc_table, od_table, .func (PySem.W.fnOf "table" "table" (defArgs s_table) (defBody s_table) (defScope s_table) .none kV_table dc_table pm_table an_table cd_table ct_table), sl_table⟩)
    (c_table : PySem.W.codeIn K cd_table "table" = true)
    (k_table : PySem.W.keepIn K (.ref x_table) = true)
    (a_same : PySem.W.nsIn K mainGlobals "same" = some (some (.ref x_same)))
    (l_same : K.lookup x_same = some ⟨oc_same, od_same, .func (PySem.W.fnOf "same" "same" (defArgs s_same) (defBody s_same) (defScope s_same) .none kV_same dc_same pm_same an_same cd_same ct_same), sl_same⟩)
    (c_same : PySem.W.codeIn K cd_same "same" = true)
    (k_same : PySem.W.keepIn K (.ref x_same) = true)
    (a__law_tape : PySem.W.nsIn K mainGlobals "_law_tape" = some (some (.ref x__law_tape)))
    (l__law_tape : K.lookup x__law_tape = some ⟨oc__law_tape, od__law_tape, .func (PySem.W.fnOf "_law_tape" "_law_tape" (defArgs s_law_tape) (defBody s_law_tape) (defScope s_law_tape) .none kV__law_tape dc__law_tape pm__law_tape an__law_tape cd__law_tape ct__law_tape), sl__law_tape⟩)
    (c__law_tape : PySem.W.codeIn K cd__law_tape "_law_tape" = true)
    (k__law_tape : PySem.W.keepIn K (.ref x__law_tape) = true)
    (a__law_draw : PySem.W.nsIn K mainGlobals "_law_draw" = some (some (.ref x__law_draw)))
    (l__law_draw : K.lookup x__law_draw = some ⟨oc__law_draw, od__law_draw, .func (PySem.W.fnOf "_law_draw" "_law_draw" (defArgs s_law_draw) (defBody s_law_draw) (defScope s_law_draw) .none kV__law_draw dc__law_draw pm__law_draw an__law_draw cd__law_draw ct__law_draw), sl__law_draw⟩)
    (c__law_draw : PySem.W.codeIn K cd__law_draw "_law_draw" = true)
    (k__law_draw : PySem.W.keepIn K (.ref x__law_draw) = true)
    (a__law_words : PySem.W.nsIn K mainGlobals "_law_words" = some (some (.ref x__law_words)))
    (l__law_words : K.lookup x__law_words = some ⟨oc__law_words, od__law_words, .func (PySem.W.fnOf "_law_words" "_law_words" (defArgs s_law_words) (defBody s_law_words) (defScope s_law_words) .none kV__law_words dc__law_words pm__law_words an__law_words cd__law_words ct__law_words), sl__law_words⟩)
    (c__law_words : PySem.W.codeIn K cd__law_words "_law_words" = true)
    (k__law_words : PySem.W.keepIn K (.ref x__law_words) = true)
    (a__law_saying : PySem.W.nsIn K mainGlobals "_law_saying" = some (some (.ref x__law_saying)))
    (l__law_saying : K.lookup x__law_saying = some ⟨oc__law_saying, od__law_saying, .func (PySem.W.fnOf "_law_saying" "_law_saying" (defArgs s_law_saying) (defBody s_law_saying) (defScope s_law_saying) .none kV__law_saying dc__law_saying pm__law_saying an__law_saying cd__law_saying ct__law_saying), sl__law_saying⟩)
    (c__law_saying : PySem.W.codeIn K cd__law_saying "_law_saying" = true)
    (k__law_saying : PySem.W.keepIn K (.ref x__law_saying) = true)
    (a__law_value : PySem.W.nsIn K mainGlobals "_law_value" = some (some (.ref x__law_value)))
    (l__law_value : K.lookup x__law_value = some ⟨oc__law_value, od__law_value, .func (PySem.W.fnOf "_law_value" "_law_value" (defArgs s_law_value) (defBody s_law_value) (defScope s_law_value) .none kV__law_value dc__law_value pm__law_value an__law_value cd__law_value ct__law_value), sl__law_value⟩)
    (c__law_value : PySem.W.codeIn K cd__law_value "_law_value" = true)
    (k__law_value : PySem.W.keepIn K (.ref x__law_value) = true)
    (a__law_row : PySem.W.nsIn K mainGlobals "_law_row" = some (some (.ref x__law_row)))
    (l__law_row : K.lookup x__law_row = some ⟨oc__law_row, od__law_row, .func (PySem.W.fnOf "_law_row" "_law_row" (defArgs s_law_row) (defBody s_law_row) (defScope s_law_row) .none kV__law_row dc__law_row pm__law_row an__law_row cd__law_row ct__law_row), sl__law_row⟩)
    (c__law_row : PySem.W.codeIn K cd__law_row "_law_row" = true)
    (k__law_row : PySem.W.keepIn K (.ref x__law_row) = true)
    (a__law_told : PySem.W.nsIn K mainGlobals "_law_told" = some (some (.ref x__law_told)))
    (l__law_told : K.lookup x__law_told = some ⟨oc__law_told, od__law_told, .func (PySem.W.fnOf "_law_told" "_law_told" (defArgs s_law_told) (defBody s_law_told) (defScope s_law_told) .none kV__law_told dc__law_told pm__law_told an__law_told cd__law_told ct__law_told), sl__law_told⟩)
    (c__law_told : PySem.W.codeIn K cd__law_told "_law_told" = true)
    (k__law_told : PySem.W.keepIn K (.ref x__law_told) = true)
    (a__law_alike : PySem.W.nsIn K mainGlobals "_law_alike" = some (some (.ref x__law_alike)))
    (l__law_alike : K.lookup x__law_alike = some ⟨oc__law_alike, od__law_alike, .func (PySem.W.fnOf "_law_alike" "_law_alike" (defArgs s_law_alike) (defBody s_law_alike) (defScope s_law_alike) .none kV__law_alike dc__law_alike pm__law_alike an__law_alike cd__law_alike ct__law_alike), sl__law_alike⟩)
    (c__law_alike : PySem.W.codeIn K cd__law_alike "_law_alike" = true)
    (k__law_alike : PySem.W.keepIn K (.ref x__law_alike) = true)
    (a__law_but_one : PySem.W.nsIn K mainGlobals "_law_but_one" = some (some (.ref x__law_but_one)))
    (l__law_but_one : K.lookup x__law_but_one = some ⟨oc__law_but_one, od__law_but_one, .func (PySem.W.fnOf "_law_but_one" "_law_but_one" (defArgs s_law_but_one) (defBody s_law_but_one) (defScope s_law_but_one) .none kV__law_but_one dc__law_but_one pm__law_but_one an__law_but_one cd__law_but_one ct__law_but_one), sl__law_but_one⟩)
    (c__law_but_one : PySem.W.codeIn K cd__law_but_one "_law_but_one" = true)
    (k__law_but_one : PySem.W.keepIn K (.ref x__law_but_one) = true)
    (a__law_bare_right : PySem.W.nsIn K mainGlobals "_law_bare_right" = some (some (.ref x__law_bare_right)))
    (l__law_bare_right : K.lookup x__law_bare_right = some ⟨oc__law_bare_right, od__law_bare_right, .func (PySem.W.fnOf "_law_bare_right" "_law_bare_right" (defArgs s_law_bare_right) (defBody s_law_bare_right) (defScope s_law_bare_right) .none kV__law_bare_right dc__law_bare_right pm__law_bare_right an__law_bare_right cd__law_bare_right ct__law_bare_right), sl__law_bare_right⟩)
    (c__law_bare_right : PySem.W.codeIn K cd__law_bare_right "_law_bare_right" = true)
    (k__law_bare_right : PySem.W.keepIn K (.ref x__law_bare_right) = true)
    (a__law_sames_right : PySem.W.nsIn K mainGlobals "_law_sames_right" = some (some (.ref x__law_sames_right)))
    (l__law_sames_right : K.lookup x__law_sames_right = some ⟨oc__law_sames_right, od__law_sames_right, .func (PySem.W.fnOf "_law_sames_right" "_law_sames_right" (defArgs s_law_sames_right) (defBody s_law_sames_right) (defScope s_law_sames_right) .none kV__law_sames_right dc__law_sames_right pm__law_sames_right an__law_sames_right cd__law_sames_right ct__law_sames_right), sl__law_sames_right⟩)
    (c__law_sames_right : PySem.W.codeIn K cd__law_sames_right "_law_sames_right" = true)
    (k__law_sames_right : PySem.W.keepIn K (.ref x__law_sames_right) = true)
    (a_law : PySem.W.nsIn K mainGlobals "law" = some (some (.ref x_law)))
    (l_law : K.lookup x_law = some ⟨oc_law, od_law, .func (PySem.W.fnOf "law" "law" (defArgs s_law) (defBody s_law) (defScope s_law) .none kV_law dc_law pm_law an_law cd_law ct_law), sl_law⟩)
    (c_law : PySem.W.codeIn K cd_law "law" = true)
    (k_law : PySem.W.keepIn K (.ref x_law) = true)
    (a_NoName : PySem.W.nsIn K mainGlobals "NoName" = some (some (.ref x_NoName)))
    (l_NoName : K.lookup x_NoName = some (excClassObj nm_NoName qn_NoName x_NoName N_NoName bs_NoName [.type "KeyError", .type "LookupError", .type "Exception", .type "BaseException", .type "object"] true sn_NoName sb_NoName ab_NoName cl_NoName dd_NoName q0_NoName q1_NoName q2_NoName q3_NoName q5_NoName "LookupError.__new__"))
    (i_NoName : PySem.W.findIn K (.ref x_NoName) "__init__" = some (some (.ref xi_NoName)))
    (li_NoName : K.lookup xi_NoName = some ⟨oc_NoName, od_NoName, .func (PySem.W.fnOf "__init__" ("NoName" ++ ".__init__") (defArgs sx_NoName) (defBody sx_NoName) (defScope sx_NoName) .none kV_NoName dc_NoName pm_NoName an_NoName cd_NoName ct_NoName), sl_NoName⟩)
    (ci_NoName : PySem.W.codeIn K cd_NoName ("NoName" ++ ".__init__") = true)
    (ki_NoName : PySem.W.keepIn K (.ref xi_NoName) = true)
    (o_NoName : oxB K x_NoName xi_NoName "name" [.type "KeyError", .type "LookupError", .type "Exception", .type "BaseException", .type "object"] = true)
    (vb_KeyError : PySem.W.findCls K (.type "KeyError") (.type "type") "__init__" = some (.val (.builtin "KeyError.__init__")))
    (cat_NoName : exB K (.ref x_NoName) [(x_NoName, true)] = true)
    (z_KeyError : PySem.W.nsIn K mainGlobals "KeyError" = some none)
    (z_bool : PySem.W.nsIn K mainGlobals "bool" = some none)
    (z_dict : PySem.W.nsIn K mainGlobals "dict" = some none)
    (z_enumerate : PySem.W.nsIn K mainGlobals "enumerate" = some none)
    (z_int : PySem.W.nsIn K mainGlobals "int" = some none)
    (z_isinstance : PySem.W.nsIn K mainGlobals "isinstance" = some none)
    (z_len : PySem.W.nsIn K mainGlobals "len" = some none)
    (z_list : PySem.W.nsIn K mainGlobals "list" = some none)
    (z_min : PySem.W.nsIn K mainGlobals "min" = some none)
    (z_range : PySem.W.nsIn K mainGlobals "range" = some none)
    (z_set : PySem.W.nsIn K mainGlobals "set" = some none)
    (z_sorted : PySem.W.nsIn K mainGlobals "sorted" = some none) :
    ∃ fd : FuncData, (∀ (s : Shared) (v : Value), BindsTo s fd ⟨[v], []⟩ [("_law_script", v)]) ∧ ∀ base : Heap, K.In base → base.Ns mainGlobals mg → FnOk PySem.Challenge.pw_middlesay_k03_tables_of_truth w K mg base (L2.CX PySem.Challenge.pw_middlesay_k03_tables_of_truth w) 62 fa fd ["_law_script"] (spLaw K 63) := by
  have e := hfa.symm.trans (PySem.W.mg_of X G a_law)
  cases e
  have F_collect := fun_mk (st := s_collect) l_collect c_collect k_collect
  have b_collect := F_collect.binds (ps := ["saying", "found"]) fun _ _ _ _ _ _ us hl => match us, hl with | [_, _], _ => rfl
  have F_names_of := fun_mk (st := s_names_of) l_names_of c_names_of k_names_of
  have b_names_of := F_names_of.binds (ps := ["saying"]) fun _ _ _ _ _ _ us hl => match us, hl with | [_], _ => rfl
  have F_need_names := fun_mk (st := s_need_names) l_need_names c_need_names k_need_names
  have b_need_names := F_need_names.binds (ps := ["names", "row"]) fun _ _ _ _ _ _ us hl => match us, hl with | [_, _], _ => rfl
  have F_full_of := fun_mk (st := s_full_of) l_full_of c_full_of k_full_of
  have b_full_of := F_full_of.binds (ps := ["many"]) fun _ _ _ _ _ _ us hl => match us, hl with | [_], _ => rfl
  have F_table_of_name := fun_mk (st := s_table_of_name) l_table_of_name c_table_of_name k_table_of_name
  have b_table_of_name := F_table_of_name.binds (ps := ["place", "many"]) fun _ _ _ _ _ _ us hl => match us, hl with | [_, _], _ => rfl
  have F_joined_tables := fun_mk (st := s_joined_tables) l_joined_tables c_joined_tables k_joined_tables
  have b_joined_tables := F_joined_tables.binds (ps := ["word", "some", "full"]) fun _ _ _ _ _ _ us hl => match us, hl with | [_, _, _], _ => rfl
  have F_table_in := fun_mk (st := s_table_in) l_table_in c_table_in k_table_in
  have b_table_in := F_table_in.binds (ps := ["saying", "tables", "full"]) fun _ _ _ _ _ _ us hl => match us, hl with | [_, _, _], _ => rfl
  have F_table := fun_mk (st := s_table) l_table c_table k_table
  have b_table := F_table.binds (ps := ["saying", "names"]) fun _ _ _ _ _ _ us hl => match us, hl with | [_, _], _ => rfl
  have F_same := fun_mk (st := s_same) l_same c_same k_same
  have b_same := F_same.binds (ps := ["saying", "other"]) fun _ _ _ _ _ _ us hl => match us, hl with | [_, _], _ => rfl
  have F__law_tape := fun_mk (st := s_law_tape) l__law_tape c__law_tape k__law_tape
  have b__law_tape := F__law_tape.binds (ps := ["_law_script"]) fun _ _ _ _ _ _ us hl => match us, hl with | [_], _ => rfl
  have F__law_draw := fun_mk (st := s_law_draw) l__law_draw c__law_draw k__law_draw
  have b__law_draw := F__law_draw.binds (ps := ["_law_tape_here", "_law_many"]) fun _ _ _ _ _ _ us hl => match us, hl with | [_, _], _ => rfl
  have F__law_words := fun_mk (st := s_law_words) l__law_words c__law_words k__law_words
  have b__law_words := F__law_words.binds (ps := ["_law_tape_here", "_law_many"]) fun _ _ _ _ _ _ us hl => match us, hl with | [_, _], _ => rfl
  have F__law_saying := fun_mk (st := s_law_saying) l__law_saying c__law_saying k__law_saying
  have b__law_saying := F__law_saying.binds (ps := ["_law_tape_here", "_law_names", "_law_left", "_law_deep"]) fun _ _ _ _ _ _ us hl => match us, hl with | [_, _, _, _], _ => rfl
  have F__law_value := fun_mk (st := s_law_value) l__law_value c__law_value k__law_value
  have b__law_value := F__law_value.binds (ps := ["_law_saying_here", "_law_row_here"]) fun _ _ _ _ _ _ us hl => match us, hl with | [_, _], _ => rfl
  have F__law_row := fun_mk (st := s_law_row) l__law_row c__law_row k__law_row
  have b__law_row := F__law_row.binds (ps := ["_law_names", "_law_number"]) fun _ _ _ _ _ _ us hl => match us, hl with | [_, _], _ => rfl
  have F__law_told := fun_mk (st := s_law_told) l__law_told c__law_told k__law_told
  have b__law_told := F__law_told.binds (ps := ["_law_saying_here", "_law_names"]) fun _ _ _ _ _ _ us hl => match us, hl with | [_, _], _ => rfl
  have F__law_alike := fun_mk (st := s_law_alike) l__law_alike c__law_alike k__law_alike
  have b__law_alike := F__law_alike.binds (ps := ["_law_one", "_law_other", "_law_names"]) fun _ _ _ _ _ _ us hl => match us, hl with | [_, _, _], _ => rfl
  have F__law_but_one := fun_mk (st := s_law_but_one) l__law_but_one c__law_but_one k__law_but_one
  have b__law_but_one := F__law_but_one.binds (ps := ["_law_tape_here", "_law_saying_here", "_law_names"]) fun _ _ _ _ _ _ us hl => match us, hl with | [_, _, _], _ => rfl
  have F__law_bare_right := fun_mk (st := s_law_bare_right) l__law_bare_right c__law_bare_right k__law_bare_right
  have b__law_bare_right := F__law_bare_right.binds (ps := ["_law_tape_here"]) fun _ _ _ _ _ _ us hl => match us, hl with | [_], _ => rfl
  have F__law_sames_right := fun_mk (st := s_law_sames_right) l__law_sames_right c__law_sames_right k__law_sames_right
  have b__law_sames_right := F__law_sames_right.binds (ps := ["_law_tape_here", "_law_saying_here", "_law_names"]) fun _ _ _ _ _ _ us hl => match us, hl with | [_, _, _], _ => rfl
  have F_law := fun_mk (st := s_law) l_law c_law k_law
  have b_law := F_law.binds (ps := ["_law_script"]) fun _ _ _ _ _ _ us hl => match us, hl with | [_], _ => rfl
  have F_NoName := fun_mk (st := sx_NoName) li_NoName ci_NoName ki_NoName
  have b_NoName := F_NoName.binds (ps := ["self", "name"]) fun _ _ _ _ _ _ us hl => match us, hl with | [_, _], _ => rfl
  let T : Txt w K mg := ⟨x_collect,
    _,
    F_collect,
    PySem.W.mg_of X G a_collect,
    b_collect,
    x_names_of,
    _,
    F_names_of,
    PySem.W.mg_of X G a_names_of,
    b_names_of,
    x_need_names,
    _,
    F_need_names,
    PySem.W.mg_of X G a_need_names,
    b_need_names,
    x_full_of,
    _,
    F_full_of,
    PySem.W.mg_of X G a_full_of,
    b_full_of,
    x_table_of_name,
    _,
    F_table_of_name,
    PySem.W.mg_of X G a_table_of_name,
    b_table_of_name,
    x_joined_tables,
    _,
    F_joined_tables,
    PySem.W.mg_of X G a_joined_tables,
    b_joined_tables,
    x_table_in,
    _,
    F_table_in,
    PySem.W.mg_of X G a_table_in,
    b_table_in,
    x_table,
    _,
    F_table,
    PySem.W.mg_of X G a_table,
    b_table,
    x_same,
    _,
    F_same,
    PySem.W.mg_of X G a_same,
    b_same,
    x__law_tape,
    _,
    F__law_tape,
    PySem.W.mg_of X G a__law_tape,
    b__law_tape,
    x__law_draw,
    _,
    F__law_draw,
    PySem.W.mg_of X G a__law_draw,
    b__law_draw,
    x__law_words,
    _,
    F__law_words,
    PySem.W.mg_of X G a__law_words,
    b__law_words,
    x__law_saying,
    _,
    F__law_saying,
    PySem.W.mg_of X G a__law_saying,
    b__law_saying,
    x__law_value,
    _,
    F__law_value,
    PySem.W.mg_of X G a__law_value,
    b__law_value,
    x__law_row,
    _,
    F__law_row,
    PySem.W.mg_of X G a__law_row,
    b__law_row,
    x__law_told,
    _,
    F__law_told,
    PySem.W.mg_of X G a__law_told,
    b__law_told,
    x__law_alike,
    _,
    F__law_alike,
    PySem.W.mg_of X G a__law_alike,
    b__law_alike,
    x__law_but_one,
    _,
    F__law_but_one,
    PySem.W.mg_of X G a__law_but_one,
    b__law_but_one,
    x__law_bare_right,
    _,
    F__law_bare_right,
    PySem.W.mg_of X G a__law_bare_right,
    b__law_bare_right,
    x__law_sames_right,
    _,
    F__law_sames_right,
    PySem.W.mg_of X G a__law_sames_right,
    b__law_sames_right,
    fa,
    _,
    F_law,
    PySem.W.mg_of X G a_law,
    b_law,
    x_NoName,
    xi_NoName,
    _,
    xc_mk (PySem.W.mg_of X G a_NoName) l_NoName i_NoName F_NoName b_NoName o_NoName,
    vb_KeyError,
    cat_NoName,
    PySem.W.mg_none_of X G z_KeyError,
    PySem.W.mg_none_of X G z_bool,
    PySem.W.mg_none_of X G z_dict,
    PySem.W.mg_none_of X G z_enumerate,
    PySem.W.mg_none_of X G z_int,
    PySem.W.mg_none_of X G z_isinstance,
    PySem.W.mg_none_of X G z_len,
    PySem.W.mg_none_of X G z_list,
    PySem.W.mg_none_of X G z_min,
    PySem.W.mg_none_of X G z_range,
    PySem.W.mg_none_of X G z_set,
    PySem.W.mg_none_of X G z_sorted⟩
  exact ⟨T.fd_law, fun s v => .of_eq rfl, fun base _ _ => law_of (oks T 60).o_law law_holds⟩
end Law
open PySem PySem.W PyProof.Rows
set_option maxRecDepth 100000 in
set_option maxHeartbeats 0 in
theorem PySem.Challenge.cw_middlesay_k03_tables_of_truth_holds : PySem.Challenge.rw_middlesay_k03_tables_of_truth.Holds := by
  w_on; o_law; k_head; (case hw => w_witness2)
  k_fill
  refine L2.walk_of (l := PySem.Challenge.rw_middlesay_k03_tables_of_truth) (n := 63) (k := 62) (x := "_law_script") (CX := fun w => L2.CX PySem.Challenge.pw_middlesay_k03_tables_of_truth w) (sp := fun w => DL.spLaw _ 63) rfl (by decide) rfl ⟨rfl, by decide, by decide⟩ (fun w h Y => PySem.W.kIn_of Y) ?F (fun _ _ a ns hl ho hS => ⟨a, ns, rfl, ho, hS, hl, fun _ => rfl⟩) (fun _ _ _ _ _ h => DL.cx_none h)
  case F =>
    intro w mg fa h KX G hmg
    refine' Law.all_mk KX G hmg ?a_collect ?l_collect ?c_collect ?k_collect ?a_names_of ?l_names_of ?c_names_of ?k_names_of ?a_need_names ?l_need_names ?c_need_names ?k_need_names ?a_full_of ?l_full_of ?c_full_of ?k_full_of ?a_table_of_name ?l_table_of_name ?c_table_of_name ?k_table_of_name ?a_joined_tables ?l_joined_tables ?c_joined_tables ?k_joined_tables ?a_table_in ?l_table_in ?c_table_in ?k_table_in ?a_table ?l_table ?c_table ?k_table ?a_same ?l_same ?c_same ?k_same ?a__law_tape ?l__law_tape ?c__law_tape ?k__law_tape ?a__law_draw ?l__law_draw ?c__law_draw ?k__law_draw ?a__law_words ?l__law_words ?c__law_words ?k__law_words ?a__law_saying ?l__law_saying ?c__law_saying ?k__law_saying ?a__law_value ?l__law_value ?c__law_value ?k__law_value ?a__law_row ?l__law_row ?c__law_row ?k__law_row ?a__law_told ?l__law_told ?c__law_told ?k__law_told ?a__law_alike ?l__law_alike ?c__law_alike ?k__law_alike ?a__law_but_one ?l__law_but_one ?c__law_but_one ?k__law_but_one ?a__law_bare_right ?l__law_bare_right ?c__law_bare_right ?k__law_bare_right ?a__law_sames_right ?l__law_sames_right ?c__law_sames_right ?k__law_sames_right ?a_law ?l_law ?c_law ?k_law ?a_NoName ?l_NoName ?i_NoName ?li_NoName ?ci_NoName ?ki_NoName ?o_NoName ?vb_KeyError ?cat_NoName ?z_KeyError ?z_bool ?z_dict ?z_enumerate ?z_int ?z_isinstance ?z_len ?z_list ?z_min ?z_range ?z_set ?z_sorted
    (case a_collect => k_is)
    (case l_collect => k_is)
    (case c_collect => k_is)
    (case k_collect => k_is)
    (case a_names_of => k_is)
    (case l_names_of => k_is)
    (case c_names_of => k_is)
    (case k_names_of => k_is)
    (case a_need_names => k_is)
    (case l_need_names => k_is)
    (case c_need_names => k_is)
    (case k_need_names => k_is)
    (case a_full_of => k_is)
    (case l_full_of => k_is)
    (case c_full_of => k_is)
    (case k_full_of => k_is)
    (case a_table_of_name => k_is)
    (case l_table_of_name => k_is)
    (case c_table_of_name => k_is)
    (case k_table_of_name => k_is)
    (case a_joined_tables => k_is)
    (case l_joined_tables => k_is)
    (case c_joined_tables => k_is)
    (case k_joined_tables => k_is)
    (case a_table_in => k_is)
    (case l_table_in => k_is)
    (case c_table_in => k_is)
    (case k_table_in => k_is)
    (case a_table => k_is)
    (case l_table => k_is)
    (case c_table => k_is)
    (case k_table => k_is)
    (case a_same => k_is)
    (case l_same => k_is)
    (case c_same => k_is)
    (case k_same => k_is)
    (case a__law_tape => k_is)
    (case l__law_tape => k_is)
    (case c__law_tape => k_is)
    (case k__law_tape => k_is)
    (case a__law_draw => k_is)
    (case l__law_draw => k_is)
    (case c__law_draw => k_is)
    (case k__law_draw => k_is)
    (case a__law_words => k_is)
    (case l__law_words => k_is)
    (case c__law_words => k_is)
    (case k__law_words => k_is)
    (case a__law_saying => k_is)
    (case l__law_saying => k_is)
    (case c__law_saying => k_is)
    (case k__law_saying => k_is)
    (case a__law_value => k_is)
    (case l__law_value => k_is)
    (case c__law_value => k_is)
    (case k__law_value => k_is)
    (case a__law_row => k_is)
    (case l__law_row => k_is)
    (case c__law_row => k_is)
    (case k__law_row => k_is)
    (case a__law_told => k_is)
    (case l__law_told => k_is)
    (case c__law_told => k_is)
    (case k__law_told => k_is)
    (case a__law_alike => k_is)
    (case l__law_alike => k_is)
    (case c__law_alike => k_is)
    (case k__law_alike => k_is)
    (case a__law_but_one => k_is)
    (case l__law_but_one => k_is)
    (case c__law_but_one => k_is)
    (case k__law_but_one => k_is)
    (case a__law_bare_right => k_is)
    (case l__law_bare_right => k_is)
    (case c__law_bare_right => k_is)
    (case k__law_bare_right => k_is)
    (case a__law_sames_right => k_is)
    (case l__law_sames_right => k_is)
    (case c__law_sames_right => k_is)
    (case k__law_sames_right => k_is)
    (case a_law => k_is)
    (case l_law => k_is)
    (case c_law => k_is)
    (case k_law => k_is)
    (case a_NoName => k_is)
    (case l_NoName => k_is)
    (case i_NoName => k_is)
    (case li_NoName => k_is)
    (case ci_NoName => k_is)
    (case ki_NoName => k_is)
    (case o_NoName => kernel_rfl)
    (case vb_KeyError => k_is)
    (case cat_NoName => kernel_rfl)
    (case z_KeyError => k_is)
    (case z_bool => k_is)
    (case z_dict => k_is)
    (case z_enumerate => k_is)
    (case z_int => k_is)
    (case z_isinstance => k_is)
    (case z_len => k_is)
    (case z_list => k_is)
    (case z_min => k_is)
    (case z_range => k_is)
    (case z_set => k_is)
    (case z_sorted => k_is)
