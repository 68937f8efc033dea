import PyProof.Rows.All
import Wide.All
import OpenK.AllK
import Wide.FinOn
import HandS.ForMost
import HandS.ForExc
import HandS.TupAny
import HandS.Flow
import HandS.IsInst
import HandS.Wide
import HandS.Deep
import HandS.CallSlots
import HandS.More
import HandS.WideBits
import KE.KExcInit
import HandS.ExcInit
import HandS.ExcField
import HandS.ExcIs
import KE.KExcIs
import HandS.Set
import HandS.SetFor
import HandS.Strs
import HandS.DeepEq
import KE.KEqDict
import KE.SortCalls
import HandS.TupSets
import KE.KeyNested
import HandS.StrMore
import HandS.Style
import HandS.RaiseMore
import PyProof.StrOps2
import HandS.ListItems
import HandS.DictTup
import PySem.Challenge.RW_middlesay_k15_the_judge
set_option Elab.async false
set_option linter.all false
set_option maxRecDepth 100000
namespace DL
open PySem PySem.Spec L2

/-- values by what they are: tuples, lists that nobody changes any more, dicts likewise; loc n: the n-th object of the store -/
inductive U where
  | non | bl (b : Bool) | int (i : Int) | str (x : Str)
  | tup (us : List U) | lst (us : List U) | frz (us : List U)
  | dic (ks : List Key) (us : List U)
  | loc (n : Nat)
  | ty (n : String)
  | exc (cls fld : Str) (arg : U)
  | cl (c : Str)
inductive Ob where
  | lst (us : List U) | dic (ks : List Key) (us : List U) | ins (c : Str) (fs : List (Str × U)) | dead
abbrev Sto := List Ob
/-- an own exception: its class, what it was made of -/
structure Exc where
  cls : Str
  fld : Str
  arg : U
inductive R (α : Type) where
  | ok (a : α) (S : Sto) | exc (x : Exc) (S : Sto) | bad
abbrev En := List (Option U)
def R.bind {α β : Type} (r : R α) (k : α → Sto → R β) : R β := match r with
  | .ok a S => k a S
  | .exc x S => .exc x S
  | .bad => .bad
def Pst {α : Type} (r : R α) (P : α → Sto → Prop) (E : Exc → Sto → Prop) : Prop := match r with
  | .ok a S => P a S
  | .exc x S => E x S
  | .bad => False
theorem Pst.of_bind {α β : Type} {r : R α} {k : α → Sto → R β} {P : β → Sto → Prop} {E : Exc → Sto → Prop} (h : Pst (r.bind k) P E) : Pst r (fun a S => Pst (k a S) P E) E := by
  cases r <;> exact h
theorem Pst.mono {α : Type} {r : R α} {P P' : α → Sto → Prop} {E E' : Exc → Sto → Prop} (h : Pst r P E) (hp : ∀ a S, P a S → P' a S) (he : ∀ x S, E x S → E' x S) : Pst r P' E' := by
  cases r with
  | ok a S => exact hp _ _ h
  | exc x S => exact he _ _ h
  | bad => exact h

/-- a world: where the store's objects stand, the store, the abstract heap -/
structure Wd where
  m : List Addr
  S : Sto
  H : Hp
  r : List Addr
def Wd.kept (w : Wd) (a : Addr) : Prop := ∃ (n : Nat) (o : Ob), w.m[n]? = some a ∧ w.S[n]? = some o ∧ o ≠ Ob.dead
/-- what may change: the store's objects, lists that a comprehension is making -/
def Wd.live (w : Wd) (a : Addr) : Prop := a ∈ w.r ∨ w.kept a
/-- a list that never changes: known to the object, or of the module -/
def FzL (K : PySem.W.Frag) (H : Hp) (a : Addr) (xs : List V) : Prop := (∃ o, H a = some (.frz o (.lst xs))) ∨
    ∃ (o : Obj) (its : Array Value) (n : Nat), K.lookup a = some o ∧ o.cls = .type "list" ∧ o.dict = none ∧ o.data = .seq its n ∧ its.size ≤ sizeLine ∧ Vals xs its.toList
theorem FzL.sq {K : PySem.W.Frag} {H : Hp} {a : Addr} {xs : List V} (h : FzL K H a xs) : SqL K H a xs := by
  rcases h with h | h
  · exact .inl (.inr h)
  · exact .inr h
/-- a tuple, tracked or of the module -/
def TqT (K : PySem.W.Frag) (H : Hp) (a : Addr) (xs : List V) : Prop := H a = some (.tup xs) ∨
    ∃ (o : Obj) (its : Array Value) (n : Nat), K.lookup a = some o ∧ o.cls = .type "tuple" ∧ o.data = .seq its n ∧ its.size ≤ sizeLine ∧ Vals xs its.toList
theorem TqT.sq {K : PySem.W.Frag} {H : Hp} {a : Addr} {xs : List V} (h : TqT K H a xs) : SqT K H a xs := by
  rcases h with h | h
  · exact .inl (.inl h)
  · exact .inr h
theorem TqT.of {K : PySem.W.Frag} {H : Hp} {a : Addr} {xs : List V} (h : H a = some (.tup xs)) : TqT K H a xs := .inl h
/-- the written part, and what the module's names stand for -/
structure KM where
  K : PySem.W.Frag
  mg : Str → Option Value
  P : Program
  wd : World
instance : Coe KM PySem.W.Frag := ⟨KM.K⟩
/-- an exception of the class at C, its dict at d -/
def exv (a C d : Addr) : HO := .ext fun h => ∃ (oe : Obj) (vs : Array Value), h.get? a = some oe ∧ Zc (.ref C) (some d) oe ∧ oe.data = .fields vs
abbrev KMof (X : Cx) : KM := ⟨X.K, X.mg, X.prog, X.w⟩
mutual
inductive VR (K : KM) (w : Wd) : U → V → Prop
  | non : VR K w .non .non
  | bl (b : Bool) : VR K w (.bl b) (.bl b)
  | int (i : Int) : VR K w (.int i) (.int i)
  | str (x : Str) : VR K w (.str x) (.str x)
  | tup {a : Addr} {xs : List V} {us : List U} : TqT K w.H a xs → VRs K w us xs → VR K w (.tup us) (.ref a)
  | lst {a : Addr} {xs : List V} {us : List U} : w.H a = some (.lst xs) → ¬ w.live a → VRs K w us xs → VR K w (.lst us) (.ref a)
  | frz {a : Addr} {xs : List V} {us : List U} : FzL K w.H a xs → VRs K w us xs → VR K w (.frz us) (.ref a)
  | dic {a : Addr} {ks : List Key} {xs : List V} {us : List U} : w.H a = some (.dK (ks.zip xs)) → ¬ w.live a → ks.length = us.length → VRs K w us xs → VR K w (.dic ks us) (.ref a)
  | loc {n : Nat} {a : Addr} : w.m[n]? = some a → VR K w (.loc n) (.ref a)
  | ty (n : String) : VR K w (.ty n) (.ty n)
  | exc {a d C : Addr} {v : V} {c f : Str} {u : U} : w.H a = some (exv a C d) → w.H d = some (.xd [(f, v)]) → K.mg c = some (.ref C) → VR K w u v → VR K w (.exc c f u) (.ref a)
  | cl {C : Addr} {c : Str} : K.mg c = some (.ref C) → VR K w (.cl c) (.ref C)
inductive VRs (K : KM) (w : Wd) : List U → List V → Prop
  | nil : VRs K w [] []
  | cons {u : U} {us : List U} {v : V} {vs : List V} : VR K w u v → VRs K w us vs → VRs K w (u :: us) (v :: vs)
end

/-- what stands of a world in a later one -/
structure Ext (w w' : Wd) : Prop where
  m : ∃ l, w'.m = w.m ++ l
  keep : ∀ a o, w.H a = some o → ¬ w.live a → w'.H a = some o
  live : ∀ a, w'.live a → w.live a ∨ w.H a = none
theorem Ext.refl (w : Wd) : Ext w w := ⟨⟨[], (List.append_nil _).symm⟩, fun _ _ h _ => h, fun _ h => .inl h⟩
theorem Ext.trans {w w1 w2 : Wd} (a : Ext w w1) (b : Ext w1 w2) : Ext w w2 := by
  obtain ⟨l1, e1⟩ := a.m
  obtain ⟨l2, e2⟩ := b.m
  refine ⟨⟨l1 ++ l2, by rw [e2, e1, List.append_assoc]⟩, fun c o h n => ?_, fun c h => ?_⟩
  · refine b.keep c o (a.keep c o h n) fun q => ?_
    rcases a.live c q with z | z
    · exact n z
    · rw [h] at z; cases z
  · rcases b.live c h with z | z
    · exact a.live c z
    · cases q : w.H c with
      | none => exact .inr rfl
      | some o =>
        by_cases n : w.live c
        · exact .inl n
        · rw [a.keep c o q n] at z; cases z
def OR (K : KM) (w : Wd) : Ob → Addr → Prop
  | .lst us, a => ∃ xs, w.H a = some (.lst xs) ∧ VRs K w us xs
  | .dic ks us, a => ∃ xs, w.H a = some (.dK (ks.zip xs)) ∧ ks.length = us.length ∧ VRs K w us xs
  | .ins c fs, a => ∃ C dx xs, K.mg c = some (.ref C) ∧ w.H a = some (.ins C dx ((fs.map (·.1)).zip xs)) ∧ VRs K w (fs.map (·.2)) xs
  | .dead, _ => True
/-- a list or a dict -/
def MutO (o : HO) : Prop := (∃ xs, o = .lst xs) ∨ ∃ kvs, o = .dK kvs
structure SR (K : KM) (w : Wd) : Prop where
  len : w.m.length = w.S.length
  inj : ∀ (i j : Nat) (a : Addr) (o o' : Ob), w.m[i]? = some a → w.m[j]? = some a → w.S[i]? = some o → w.S[j]? = some o' → o ≠ Ob.dead → o' ≠ .dead → i = j
  obj : ∀ (n : Nat) (a : Addr) (o : Ob), w.m[n]? = some a → w.S[n]? = some o → OR K w o a
  rk : ∀ a ∈ w.r, ∃ o, w.H a = some o ∧ MutO o
  rd : ∀ a ∈ w.r, ¬ w.kept a

section
variable {K : KM} {w w' : Wd}
theorem SR.kind (s : SR K w) {a : Addr} (h : w.live a) : (∃ xs, w.H a = some (.lst xs)) ∨ (∃ kvs, w.H a = some (.dK kvs)) ∨ ∃ C dx fs, w.H a = some (.ins C dx fs) := by
  rcases h with h | h
  · obtain ⟨o, e, m⟩ := s.rk a h
    exact m.imp (fun ⟨xs, q⟩ => ⟨xs, by rw [← q]; exact e⟩) fun ⟨xs, q⟩ => .inl ⟨xs, by rw [← q]; exact e⟩
  obtain ⟨n, o, h1, h2, h3⟩ := h
  have q := s.obj n a o h1 h2
  cases o with
  | lst us => obtain ⟨xs, e, _⟩ := q; exact .inl ⟨xs, e⟩
  | dic ks us => obtain ⟨xs, e, _⟩ := q; exact .inr (.inl ⟨_, e⟩)
  | ins c fs => obtain ⟨C, dx, xs, _, e, _⟩ := q; exact .inr (.inr ⟨_, _, _, e⟩)
  | dead => exact absurd rfl h3
theorem SR.notup (s : SR K w) {a : Addr} {xs : List V} (e : w.H a = some (.tup xs)) : ¬ w.live a := fun h => by
  rcases s.kind h with ⟨_, q⟩ | ⟨_, q⟩ | ⟨_, _, _, q⟩ <;> (rw [e] at q; cases q)
theorem SR.nofrz (s : SR K w) {a : Addr} {o : Obj} {u : HO} (e : w.H a = some (.frz o u)) : ¬ w.live a := fun h => by
  rcases s.kind h with ⟨_, q⟩ | ⟨_, q⟩ | ⟨_, _, _, q⟩ <;> (rw [e] at q; cases q)
theorem SR.noexv (s : SR K w) {a b C d : Addr} (e : w.H a = some (exv b C d)) : ¬ w.live a := fun h => by
  unfold exv at e
  rcases s.kind h with ⟨_, q⟩ | ⟨_, q⟩ | ⟨_, _, _, q⟩ <;> (rw [e] at q; cases q)
theorem SR.noxd (s : SR K w) {a : Addr} {fs : List (Str × V)} (e : w.H a = some (.xd fs)) : ¬ w.live a := fun h => by
  rcases s.kind h with ⟨_, q⟩ | ⟨_, q⟩ | ⟨_, _, _, q⟩ <;> (rw [e] at q; cases q)
theorem Ext.sqT (x : Ext w w') (s : SR K w) {a : Addr} {xs : List V} (h : TqT K w.H a xs) : TqT K w'.H a xs := by
  rcases h with h | h
  · exact .inl (x.keep _ _ h (s.notup h))
  · exact .inr h
theorem Ext.fz (x : Ext w w') (s : SR K w) {a : Addr} {xs : List V} (h : FzL K w.H a xs) : FzL K w'.H a xs := by
  rcases h with ⟨o, h⟩ | h
  · exact .inl ⟨o, x.keep _ _ h (s.nofrz h)⟩
  · exact .inr h
theorem Ext.dead (x : Ext w w') {a : Addr} {o : HO} (e : w.H a = some o) (n : ¬ w.live a) : ¬ w'.live a := fun h => by
  rcases x.live a h with z | z
  · exact n z
  · rw [e] at z; cases z
theorem Ext.at (x : Ext w w') {n : Nat} {a : Addr} (h : w.m[n]? = some a) : w'.m[n]? = some a := by
  obtain ⟨l, e⟩ := x.m
  rw [e]
  obtain ⟨hn, _⟩ := List.getElem?_eq_some_iff.mp h
  rw [List.getElem?_append_left hn]
  exact h
mutual
theorem VR.ext (x : Ext w w') (s : SR K w) : ∀ {u : U} {v : V}, VR K w u v → VR K w' u v
  | _, _, .non => .non
  | _, _, .bl b => .bl b
  | _, _, .int i => .int i
  | _, _, .str y => .str y
  | _, _, .tup h r => .tup (x.sqT s h) (VRs.ext x s r)
  | _, _, .lst h n r => .lst (x.keep _ _ h n) (x.dead h n) (VRs.ext x s r)
  | _, _, .frz h r => .frz (x.fz s h) (VRs.ext x s r)
  | _, _, .dic h n l r => .dic (x.keep _ _ h n) (x.dead h n) l (VRs.ext x s r)
  | _, _, .loc h => .loc (x.at h)
  | _, _, .ty n => .ty n
  | _, _, .exc h h2 c r => .exc (x.keep _ _ h (s.noexv h)) (x.keep _ _ h2 (s.noxd h2)) c (VR.ext x s r)
  | _, _, .cl h => .cl h
theorem VRs.ext (x : Ext w w') (s : SR K w) : ∀ {us : List U} {vs : List V}, VRs K w us vs → VRs K w' us vs
  | _, _, .nil => .nil
  | _, _, .cons h r => .cons (VR.ext x s h) (VRs.ext x s r)
end
theorem VRs.length : ∀ {us : List U} {vs : List V}, VRs K w us vs → us.length = vs.length
  | _, _, .nil => rfl
  | _, _, .cons _ r => by rw [List.length_cons, List.length_cons, VRs.length r]
theorem VRs.get : ∀ {us : List U} {vs : List V} {i : Nat} {u : U}, VRs K w us vs → us[i]? = some u → ∃ v, vs[i]? = some v ∧ VR K w u v
  | _, _, _, _, .nil, e => by simp at e
  | _, _, 0, _, .cons r _, e => by simp at e; subst e; exact ⟨_, rfl, r⟩
  | _, _, i + 1, u, .cons _ t, e => by
    obtain ⟨v, h1, h2⟩ := VRs.get (i := i) (u := u) t (by simpa using e)
    exact ⟨v, by simpa using h1, h2⟩
theorem VRs.get' : ∀ {us : List U} {vs : List V} {i : Nat} {v : V}, VRs K w us vs → vs[i]? = some v → ∃ u, us[i]? = some u ∧ VR K w u v
  | _, _, _, _, .nil, e => by simp at e
  | _, _, 0, _, .cons r _, e => by simp at e; subst e; exact ⟨_, rfl, r⟩
  | _, _, i + 1, v, .cons _ t, e => by
    obtain ⟨u, h1, h2⟩ := VRs.get' (i := i) (v := v) t (by simpa using e)
    exact ⟨u, by simpa using h1, h2⟩
theorem VRs.append : ∀ {us us' : List U} {vs vs' : List V}, VRs K w us vs → VRs K w us' vs' → VRs K w (us ++ us') (vs ++ vs')
  | _, _, _, _, .nil, s => s
  | _, _, _, _, .cons r t, s => .cons r (VRs.append t s)
theorem VRs.take : ∀ {us : List U} {vs : List V} (n : Nat), VRs K w us vs → VRs K w (us.take n) (vs.take n)
  | _, _, 0, _ => by rw [List.take_zero, List.take_zero]; exact .nil
  | _, _, _ + 1, .nil => by rw [List.take_nil, List.take_nil]; exact .nil
  | _, _, n + 1, .cons r t => by rw [List.take_succ_cons, List.take_succ_cons]; exact .cons r (VRs.take n t)
theorem VRs.drop : ∀ {us : List U} {vs : List V} (n : Nat), VRs K w us vs → VRs K w (us.drop n) (vs.drop n)
  | _, _, 0, r => by rw [List.drop_zero, List.drop_zero]; exact r
  | _, _, _ + 1, .nil => by rw [List.drop_nil, List.drop_nil]; exact .nil
  | _, _, n + 1, .cons _ t => by rw [List.drop_succ_cons, List.drop_succ_cons]; exact VRs.drop n t
theorem VRs.set {u : U} {v : V} (r : VR K w u v) : ∀ {us : List U} {vs : List V} (i : Nat), VRs K w us vs → VRs K w (us.set i u) (vs.set i v)
  | _, _, _, .nil => by rw [List.set_nil, List.set_nil]; exact .nil
  | _, _, 0, .cons _ t => .cons r t
  | _, _, i + 1, .cons q t => .cons q (VRs.set r i t)
theorem VRs.snoc {us : List U} {vs : List V} {u : U} {v : V} (h : VRs K w us vs) (r : VR K w u v) : VRs K w (us ++ [u]) (vs ++ [v]) := h.append (.cons r .nil)

/-! ### the worlds behind a step -/
/-- a new object that is not of the store -/
def Wd.new (w : Wd) (p : Addr) (o : HO) : Wd := ⟨w.m, w.S, upd w.H p o, w.r⟩
/-- a new object of the store -/
def Wd.push (w : Wd) (p : Addr) (o : HO) (b : Ob) : Wd := ⟨w.m ++ [p], w.S ++ [b], upd w.H p o, w.r⟩
/-- the object n of the store, at a, changed -/
def Wd.put (w : Wd) (n : Nat) (a : Addr) (o : HO) (b : Ob) : Wd := ⟨w.m, w.S.set n b, upd w.H a o, w.r⟩
/-- the object n left to be read alone -/
def Wd.ice (w : Wd) (n : Nat) : Wd := ⟨w.m, w.S.set n .dead, w.H, w.r⟩

theorem Wd.live_new {p a : Addr} {o : HO} : (w.new p o).live a ↔ w.live a := Iff.rfl
theorem SR.tracked (s : SR K w) {a : Addr} (h : w.live a) : w.H a ≠ none := fun e => by
  rcases s.kind h with ⟨_, q⟩ | ⟨_, q⟩ | ⟨_, _, _, q⟩ <;> (rw [e] at q; cases q)
theorem Ext.new (s : SR K w) {p : Addr} {o : HO} (hp : w.H p = none) : Ext w (w.new p o) :=
  ⟨⟨[], (List.append_nil _).symm⟩, fun a u h _ => by
    show upd w.H p o a = some u
    rw [upd_ne (ne_of_none h hp)]; exact h, fun _ h => .inl h⟩
theorem OR.ext (x : Ext w w') (s : SR K w) {o : Ob} {a : Addr} (h : OR K w o a) (e : w'.H a = w.H a) : OR K w' o a := by
  cases o with
  | lst us => obtain ⟨xs, q, r⟩ := h; exact ⟨xs, e.trans q, r.ext x s⟩
  | dic ks us => obtain ⟨xs, q, l, r⟩ := h; exact ⟨xs, e.trans q, l, r.ext x s⟩
  | ins c fs => obtain ⟨C, dx, xs, m, q, r⟩ := h; exact ⟨C, dx, xs, m, e.trans q, r.ext x s⟩
  | dead => trivial
theorem SR.new (s : SR K w) {p : Addr} {o : HO} (hp : w.H p = none) : SR K (w.new p o) := by
  have x := Ext.new s (o := o) hp
  refine ⟨s.len, s.inj, fun n a b h1 h2 => ?_, fun a h => ?_, s.rd⟩
  · by_cases hb : b = .dead
    · subst hb; trivial
    · refine (s.obj n a b h1 h2).ext x s ?_
      show upd w.H p o a = w.H a
      rw [upd_ne fun e => ?_]
      subst e
      exact s.tracked (.inr ⟨n, b, h1, h2, hb⟩) hp
  · obtain ⟨xs, e, mo⟩ := s.rk a h
    exact ⟨xs, by show upd w.H p o a = _; rw [upd_ne (ne_of_none e hp)]; exact e, mo⟩
theorem get_snoc {α : Type} {l : List α} {x y : α} {n : Nat} (h : (l ++ [x])[n]? = some y) : l[n]? = some y ∨ (n = l.length ∧ y = x) := by
  by_cases hn : n < l.length
  · rw [List.getElem?_append_left hn] at h; exact .inl h
  · rw [List.getElem?_append_right (by omega)] at h
    have e : n - l.length = 0 := by
      cases q : n - l.length with
      | zero => rfl
      | succ k => rw [q] at h; simp at h
    rw [e] at h
    simp at h
    exact .inr ⟨by omega, h.symm⟩
theorem Wd.kept_push {p a : Addr} {o : HO} {b : Ob} (hl : w.m.length = w.S.length) (h : (w.push p o b).kept a) : w.kept a ∨ a = p := by
  obtain ⟨n, c, h1, h2, h3⟩ := h
  have h1 : (w.m ++ [p])[n]? = some a := h1
  have h2 : (w.S ++ [b])[n]? = some c := h2
  rcases get_snoc h1 with z | ⟨z, e⟩
  · rcases get_snoc h2 with y | ⟨y, _⟩
    · exact .inl ⟨n, c, z, y, h3⟩
    · have := (List.getElem?_eq_some_iff.mp z).1
      omega
  · exact .inr e
theorem Wd.live_push {p a : Addr} {o : HO} {b : Ob} (hl : w.m.length = w.S.length) (h : (w.push p o b).live a) : w.live a ∨ a = p := by
  rcases h with h | h
  · exact .inl (.inl h)
  · rcases Wd.kept_push hl h with z | z
    · exact .inl (.inr z)
    · exact .inr z
theorem Ext.push (s : SR K w) {p : Addr} {o : HO} {b : Ob} (hp : w.H p = none) : Ext w (w.push p o b) := by
  refine ⟨⟨[p], rfl⟩, fun a u h _ => ?_, fun a h => ?_⟩
  · show upd w.H p o a = some u
    rw [upd_ne (ne_of_none h hp)]; exact h
  · rcases Wd.live_push s.len h with z | z
    · exact .inl z
    · subst z; exact .inr hp
theorem SR.push (s : SR K w) {p : Addr} {o : HO} {b : Ob} (hp : w.H p = none) (hb : OR K (w.push p o b) b p) : SR K (w.push p o b) := by
  have x := Ext.push s (o := o) (b := b) hp
  have old : ∀ {n : Nat} {a : Addr} {c : Ob}, w.m[n]? = some a → w.S[n]? = some c → c ≠ Ob.dead → a ≠ p := fun {n a c} h1 h2 h3 e => by
    subst e
    exact s.tracked (.inr ⟨n, c, h1, h2, h3⟩) hp
  refine ⟨by show (w.m ++ [p]).length = (w.S ++ [b]).length; simp [s.len], fun i j a c c' h1 h2 h3 h4 d d' => ?_, fun n a c h1 h2 => ?_, fun a h => ?_, fun a h q => ?_⟩
  · have h1 : (w.m ++ [p])[i]? = some a := h1
    have h2 : (w.m ++ [p])[j]? = some a := h2
    have h3 : (w.S ++ [b])[i]? = some c := h3
    have h4 : (w.S ++ [b])[j]? = some c' := h4
    have hl := s.len
    rcases get_snoc h1 with z1 | ⟨z1, e1⟩ <;> rcases get_snoc h2 with z2 | ⟨z2, e2⟩ <;> rcases get_snoc h3 with z3 | ⟨z3, e3⟩ <;> rcases get_snoc h4 with z4 | ⟨z4, e4⟩
    all_goals first
      | omega
      | exact s.inj i j a c c' z1 z2 z3 z4 d d'
      | exact absurd e2 (old z1 z3 d)
      | exact absurd e1 (old z2 z4 d')
      | (have := (List.getElem?_eq_some_iff.mp z1).1; omega)
      | (have := (List.getElem?_eq_some_iff.mp z2).1; omega)
      | (have := (List.getElem?_eq_some_iff.mp z3).1; omega)
      | (have := (List.getElem?_eq_some_iff.mp z4).1; omega)
  · have h1 : (w.m ++ [p])[n]? = some a := h1
    have h2 : (w.S ++ [b])[n]? = some c := h2
    have hl := s.len
    rcases get_snoc h1 with z1 | ⟨z1, e1⟩
    · rcases get_snoc h2 with z2 | ⟨z2, e2⟩
      · by_cases hc : c = .dead
        · subst hc; trivial
        · refine (s.obj n a c z1 z2).ext x s ?_
          show upd w.H p o a = w.H a
          rw [upd_ne (old z1 z2 hc)]
      · have := (List.getElem?_eq_some_iff.mp z1).1
        omega
    · rcases get_snoc h2 with z2 | ⟨z2, e2⟩
      · have := (List.getElem?_eq_some_iff.mp z2).1
        omega
      · subst e1 e2; exact hb
  · obtain ⟨xs, e, mo⟩ := s.rk a h
    exact ⟨xs, by show upd w.H p o a = _; rw [upd_ne (ne_of_none e hp)]; exact e, mo⟩
  · rcases Wd.kept_push s.len q with z | z
    · exact s.rd a h z
    · subst z
      exact s.tracked (.inl h) hp
theorem get_set {α : Type} {l : List α} {x y : α} {n k : Nat} (h : (l.set n x)[k]? = some y) : (k = n ∧ y = x) ∨ (k ≠ n ∧ l[k]? = some y) := by
  by_cases e : k = n
  · subst e
    by_cases hk : k < l.length
    · rw [List.getElem?_set_self hk] at h; exact .inl ⟨rfl, (Option.some.inj h).symm⟩
    · rw [List.getElem?_eq_none (by simpa using hk)] at h; cases h
  · rw [List.getElem?_set_ne (Ne.symm e)] at h; exact .inr ⟨e, h⟩
theorem Wd.kept_set {n : Nat} {a c : Addr} {b : Ob} {H' : Hp} {r' : List Addr} (hm : w.m[n]? = some a) (hl : w.kept a) (h : (⟨w.m, w.S.set n b, H', r'⟩ : Wd).kept c) : w.kept c := by
  obtain ⟨k, o, h1, h2, h3⟩ := h
  have h1 : w.m[k]? = some c := h1
  rcases get_set h2 with ⟨e, _⟩ | ⟨_, z⟩
  · subst e; rw [hm] at h1; cases h1; exact hl
  · exact ⟨k, o, h1, z, h3⟩
theorem Ext.put (s : SR K w) {n : Nat} {a : Addr} {o : HO} {b b0 : Ob} (hm : w.m[n]? = some a) (hS : w.S[n]? = some b0) (hd : b0 ≠ Ob.dead) : Ext w (w.put n a o b) := by
  have hl : w.kept a := ⟨n, b0, hm, hS, hd⟩
  refine ⟨⟨[], (List.append_nil _).symm⟩, fun c u h nl => ?_, fun c h => .inl (h.elim .inl fun q => .inr (Wd.kept_set hm hl q))⟩
  show upd w.H a o c = some u
  rw [upd_ne fun e => nl (by subst e; exact .inr hl)]; exact h
theorem SR.put (s : SR K w) {n : Nat} {a : Addr} {o : HO} {b b0 : Ob} (hm : w.m[n]? = some a) (hS : w.S[n]? = some b0) (hd : b0 ≠ Ob.dead) (hb : OR K (w.put n a o b) b a) : SR K (w.put n a o b) := by
  have x := Ext.put s (o := o) (b := b) hm hS hd
  refine ⟨by show w.m.length = (w.S.set n b).length; simp [s.len], fun i j c d d' h1 h2 h3 h4 e e' => ?_, fun k c d h1 h2 => ?_, fun c h => ?_, fun c h q => s.rd c h (Wd.kept_set hm ⟨n, b0, hm, hS, hd⟩ q)⟩
  · have h1 : w.m[i]? = some c := h1
    have h2 : w.m[j]? = some c := h2
    have old : ∀ {k : Nat} {d : Ob}, (w.S.set n b)[k]? = some d → d ≠ Ob.dead → ∃ d0, w.S[k]? = some d0 ∧ d0 ≠ Ob.dead := fun {k d} q nd => by
      rcases get_set q with ⟨z, _⟩ | ⟨_, z⟩
      · subst z; exact ⟨b0, hS, hd⟩
      · exact ⟨d, z, nd⟩
    obtain ⟨p1, q1, r1⟩ := old h3 e
    obtain ⟨p2, q2, r2⟩ := old h4 e'
    exact s.inj i j c p1 p2 h1 h2 q1 q2 r1 r2
  · have h1 : w.m[k]? = some c := h1
    rcases get_set h2 with ⟨z, y⟩ | ⟨z, y⟩
    · subst z y
      have e := hm.symm.trans h1
      cases e
      exact hb
    · by_cases hc : d = .dead
      · subst hc; trivial
      · refine (s.obj k c d h1 y).ext x s ?_
        show upd w.H a o c = w.H c
        rw [upd_ne fun e => z ?_]
        subst e
        exact s.inj k n c d b0 h1 hm y hS hc hd
  · obtain ⟨xs, e, mo⟩ := s.rk c h
    refine ⟨xs, ?_, mo⟩
    show upd w.H a o c = _
    rw [upd_ne fun z => s.rd c h (by subst z; exact ⟨n, b0, hm, hS, hd⟩)]; exact e
theorem Wd.kept_ice {n : Nat} {c : Addr} (h : (w.ice n).kept c) : w.kept c := by
  obtain ⟨k, o, h1, h2, h3⟩ := h
  rcases get_set (show (w.S.set n .dead)[k]? = some o from h2) with ⟨_, e⟩ | ⟨_, z⟩
  · exact absurd e h3
  · exact ⟨k, o, h1, z, h3⟩
theorem Ext.ice (w : Wd) (n : Nat) : Ext w (w.ice n) := by
  exact ⟨⟨[], (List.append_nil _).symm⟩, fun _ _ h _ => h, fun c h => .inl (h.elim .inl fun q => .inr (Wd.kept_ice q))⟩
theorem SR.ice (s : SR K w) (n : Nat) : SR K (w.ice n) := by
  have x := Ext.ice w n
  have old : ∀ {k : Nat} {d : Ob}, (w.S.set n .dead)[k]? = some d → d ≠ Ob.dead → w.S[k]? = some d := fun {k d} q nd => by
    rcases get_set q with ⟨_, z⟩ | ⟨_, z⟩
    · exact absurd z nd
    · exact z
  refine ⟨by show w.m.length = (w.S.set n .dead).length; simp [s.len], fun i j c d d' h1 h2 h3 h4 e e' => s.inj i j c d d' h1 h2 (old h3 e) (old h4 e') e e', fun k c d h1 h2 => ?_, s.rk, fun c h q => s.rd c h (Wd.kept_ice q)⟩
  by_cases hc : d = .dead
  · subst hc; trivial
  · exact (s.obj k c d h1 (old h2 hc)).ext x s rfl
theorem live_ice (s : SR K w) {n : Nat} {a : Addr} {b : Ob} (hm : w.m[n]? = some a) (hS : w.S[n]? = some b) (hd : b ≠ Ob.dead) : ¬ (w.ice n).live a := fun h => by
  rcases h with h | h
  · exact s.rd a h ⟨n, b, hm, hS, hd⟩
  obtain ⟨k, o, h1, h2, h3⟩ := h
  have h1 : w.m[k]? = some a := h1
  rcases get_set (show (w.S.set n .dead)[k]? = some o from h2) with ⟨_, e⟩ | ⟨z, y⟩
  · exact h3 e
  · exact z (s.inj k n a o b h1 hm y hS h3 hd)

/-! ### a list that a comprehension is making -/
def Wd.hold (w : Wd) (D : Addr) (o : HO) : Wd := ⟨w.m, w.S, upd w.H D o, D :: w.r⟩
def Wd.grow (w : Wd) (D : Addr) (xs : List V) : Wd := ⟨w.m, w.S, upd w.H D (.lst xs), w.r⟩
theorem Ext.hold (s : SR K w) {D : Addr} {o : HO} (hp : w.H D = none) : Ext w (w.hold D o) := by
  refine ⟨⟨[], (List.append_nil _).symm⟩, fun a u h _ => ?_, fun a h => ?_⟩
  · show upd w.H D _ a = some u
    rw [upd_ne (ne_of_none h hp)]; exact h
  · rcases h with h | h
    · rcases List.mem_cons.mp h with z | z
      · subst z; exact .inr hp
      · exact .inl (.inl z)
    · exact .inl (.inr h)
theorem SR.hold (s : SR K w) {D : Addr} {o : HO} (hp : w.H D = none) (mo : MutO o) : SR K (w.hold D o) := by
  have x := Ext.hold s (o := o) hp
  have nd : ∀ {a : Addr}, w.live a → a ≠ D := fun {a} h e => by subst e; exact s.tracked h hp
  refine ⟨s.len, s.inj, fun n a b h1 h2 => ?_, fun a h => ?_, fun a h q => ?_⟩
  · by_cases hb : b = .dead
    · subst hb; trivial
    · refine (s.obj n a b h1 h2).ext x s ?_
      show upd w.H D _ a = w.H a
      rw [upd_ne (nd (.inr ⟨n, b, h1, h2, hb⟩))]
  · rcases List.mem_cons.mp h with z | z
    · subst z; exact ⟨o, upd_same, mo⟩
    · obtain ⟨ys, e, mo'⟩ := s.rk a z
      exact ⟨ys, by show upd w.H D _ a = _; rw [upd_ne (ne_of_none e hp)]; exact e, mo'⟩
  · rcases List.mem_cons.mp h with z | z
    · subst z; exact s.tracked (.inr q) hp
    · exact s.rd a z q
theorem Ext.grow {D : Addr} {xs : List V} (hD : D ∈ w.r) : Ext w (w.grow D xs) :=
  ⟨⟨[], (List.append_nil _).symm⟩, fun a u h nl => by
    show upd w.H D _ a = some u
    rw [upd_ne fun e => nl (by subst e; exact .inl hD)]; exact h, fun _ h => .inl h⟩
theorem SR.grow (s : SR K w) {D : Addr} {xs : List V} (hD : D ∈ w.r) : SR K (w.grow D xs) := by
  have x := Ext.grow (xs := xs) hD
  refine ⟨s.len, s.inj, fun n a b h1 h2 => ?_, fun a h => ?_, s.rd⟩
  · by_cases hb : b = .dead
    · subst hb; trivial
    · refine (s.obj n a b h1 h2).ext x s ?_
      show upd w.H D _ a = w.H a
      rw [upd_ne fun e => s.rd D hD (by subst e; exact ⟨n, b, h1, h2, hb⟩)]
  · by_cases e : a = D
    · subst e; exact ⟨_, upd_same, .inl ⟨xs, rfl⟩⟩
    · obtain ⟨ys, q, mo⟩ := s.rk a h
      exact ⟨ys, by show upd w.H D _ a = _; rw [upd_ne e]; exact q, mo⟩
theorem let_go_r {D : Addr} {l : List Addr} (h : D ∉ l) : (D :: l).filter (fun a => decide (a ≠ D)) = l := by
  rw [List.filter_cons_of_neg (by simp)]
  exact List.filter_eq_self.mpr fun a ha => decide_eq_true fun e => h (by subst e; exact ha)
/-- a step: what stands stays, the lists in the making are the same -/
structure Stp (w w' : Wd) : Prop where
  x : Ext w w'
  r : w'.r = w.r
  k : ∀ a ∈ w.r, w'.H a = w.H a
theorem Stp.refl (w : Wd) : Stp w w := ⟨Ext.refl w, rfl, fun _ _ => rfl⟩
theorem Stp.trans {w w1 w2 : Wd} (a : Stp w w1) (b : Stp w1 w2) : Stp w w2 := ⟨a.x.trans b.x, b.r.trans a.r, fun c h => (b.k c (by rw [a.r]; exact h)).trans (a.k c h)⟩
theorem Stp.new (s : SR K w) {p : Addr} {o : HO} (hp : w.H p = none) : Stp w (w.new p o) := ⟨Ext.new s hp, rfl, fun a h => by
  show upd w.H p o a = w.H a
  rw [upd_ne fun e => s.tracked (.inl h) (by rw [e]; exact hp)]⟩
theorem Stp.push (s : SR K w) {p : Addr} {o : HO} {b : Ob} (hp : w.H p = none) : Stp w (w.push p o b) := ⟨Ext.push s hp, rfl, fun a h => by
  show upd w.H p o a = w.H a
  rw [upd_ne fun e => s.tracked (.inl h) (by rw [e]; exact hp)]⟩
theorem Stp.put (s : SR K w) {n : Nat} {a : Addr} {o : HO} {b b0 : Ob} (hm : w.m[n]? = some a) (hS : w.S[n]? = some b0) (hd : b0 ≠ .dead) : Stp w (w.put n a o b) := ⟨Ext.put s hm hS hd, rfl, fun c h => by
  show upd w.H a o c = w.H c
  rw [upd_ne fun e => s.rd c h (by rw [e]; exact ⟨n, b0, hm, hS, hd⟩)]⟩
theorem Stp.ice (w : Wd) (n : Nat) : Stp w (w.ice n) := ⟨Ext.ice w n, rfl, fun _ _ => rfl⟩

/-! ### the list is made: it is no more tracked -/
def Wd.cut (w : Wd) (D : Addr) : Wd := ⟨w.m, w.S, fun b => if b = D then none else w.H b, w.r.filter fun a => decide (a ≠ D)⟩
theorem cut_at {D a : Addr} (h : a ≠ D) : (w.cut D).H a = w.H a := if_neg h
theorem cut_D {D : Addr} : (w.cut D).H D = none := if_pos rfl
theorem cut_back {D : Addr} {o : HO} (h : w.H D = some o) : upd (w.cut D).H D o = w.H := by
  funext b
  by_cases e : b = D
  · subst e; rw [upd_same, h]
  · rw [upd_ne e, cut_at e]
theorem live_cut {D a : Addr} (h : (w.cut D).live a) : w.live a := h.elim (fun q => .inl (List.mem_filter.mp q).1) .inr
mutual
theorem VR.cut {D : Addr} {o : HO} (hD : w.live D) (hx : w.H D = some o) (mo : MutO o) : ∀ {u : U} {v : V}, VR K w u v → VR K (w.cut D) u v
  | _, _, .non => .non
  | _, _, .bl b => .bl b
  | _, _, .int i => .int i
  | _, _, .str y => .str y
  | _, _, .tup h r => .tup (h.imp (fun q => (cut_at (ne_of q hx (fun z => by rcases mo with ⟨_, y⟩ | ⟨_, y⟩ <;> (rw [y] at z; cases z)))).trans q) id) (VRs.cut hD hx mo r)
  | _, _, .lst h n r => .lst ((cut_at (fun e => n (by rw [e]; exact hD))).trans h) (fun q => n (live_cut q)) (VRs.cut hD hx mo r)
  | _, _, .frz h r => .frz (h.imp (fun ⟨o, q⟩ => ⟨o, (cut_at (ne_of q hx (fun z => by rcases mo with ⟨_, y⟩ | ⟨_, y⟩ <;> (rw [y] at z; cases z)))).trans q⟩) id) (VRs.cut hD hx mo r)
  | _, _, .dic h n l r => .dic ((cut_at (fun e => n (by rw [e]; exact hD))).trans h) (fun q => n (live_cut q)) l (VRs.cut hD hx mo r)
  | _, _, .loc h => .loc h
  | _, _, .ty n => .ty n
  | _, _, .exc h h2 c r => .exc ((cut_at (ne_of h hx (fun z => by rcases mo with ⟨_, y⟩ | ⟨_, y⟩ <;> (rw [y] at z; unfold exv at z; cases z)))).trans h) ((cut_at (ne_of h2 hx (fun z => by rcases mo with ⟨_, y⟩ | ⟨_, y⟩ <;> (rw [y] at z; cases z)))).trans h2) c (VR.cut hD hx mo r)
  | _, _, .cl h => .cl h
theorem VRs.cut {D : Addr} {o : HO} (hD : w.live D) (hx : w.H D = some o) (mo : MutO o) : ∀ {us : List U} {vs : List V}, VRs K w us vs → VRs K (w.cut D) us vs
  | _, _, .nil => .nil
  | _, _, .cons h r => .cons (VR.cut hD hx mo h) (VRs.cut hD hx mo r)
end
theorem SR.cut (s : SR K w) {D : Addr} (hD : D ∈ w.r) : SR K (w.cut D) := by
  obtain ⟨ys, hx, mo⟩ := s.rk D hD
  have ne : ∀ {n : Nat} {a : Addr} {o : Ob}, w.m[n]? = some a → w.S[n]? = some o → o ≠ Ob.dead → a ≠ D := fun {n a o} h1 h2 h3 e => s.rd D hD (by rw [← e]; exact ⟨n, o, h1, h2, h3⟩)
  refine ⟨s.len, s.inj, fun n a o h1 h2 => ?_, fun a h => ?_, fun a h q => s.rd a (List.mem_filter.mp h).1 q⟩
  · have q := s.obj n a o h1 h2
    cases o with
    | lst us => obtain ⟨xs, e, r⟩ := q; exact ⟨xs, (cut_at (ne h1 h2 (by intro z; cases z))).trans e, r.cut (.inl hD) hx mo⟩
    | dic ks us => obtain ⟨xs, e, l, r⟩ := q; exact ⟨xs, (cut_at (ne h1 h2 (by intro z; cases z))).trans e, l, r.cut (.inl hD) hx mo⟩
    | ins c fs => obtain ⟨C, dx, xs, m, e, r⟩ := q; exact ⟨C, dx, xs, m, (cut_at (ne h1 h2 (by intro z; cases z))).trans e, r.cut (.inl hD) hx mo⟩
    | dead => trivial
  · obtain ⟨h1, h2⟩ := List.mem_filter.mp h
    obtain ⟨xs, e, mo'⟩ := s.rk a h1
    exact ⟨xs, (cut_at (of_decide_eq_true h2)).trans e, mo'⟩
theorem Ext.cut {w1 : Wd} {D : Addr} (x : Ext w1 w) (h0 : w1.H D = none) : Ext w1 (w.cut D) :=
  ⟨x.m, fun a o h n => (cut_at (ne_of_none h h0)).trans (x.keep a o h n), fun a h => x.live a (live_cut h)⟩

/-! ### the names' values -/
structure ER (K : KM) (w : Wd) (d : En) (σ : St) : Prop where
  len : d.length = σ.length
  get : ∀ (i : Nat) (u : U), d[i]? = some (some u) → ∃ v, σ[i]? = some (some v) ∧ VR K w u v
theorem ER.ext {d : En} {σ : St} (x : Ext w w') (s : SR K w) (e : ER K w d σ) : ER K w' d σ :=
  ⟨e.len, fun i u h => let ⟨v, h1, h2⟩ := e.get i u h; ⟨v, h1, h2.ext x s⟩⟩
theorem ER.set {d : En} {σ : St} {u : U} {v : V} (e : ER K w d σ) (i : Nat) (r : VR K w u v) : ER K w (d.set i (some u)) (σ.set i (some v)) := by
  refine ⟨by simp [e.len], fun j y h => ?_⟩
  rcases get_set h with ⟨z, q⟩ | ⟨z, q⟩
  · subst z
    cases q
    have hj : j < σ.length := by
      have := (List.getElem?_eq_some_iff.mp h).1
      simpa [e.len] using this
    exact ⟨v, List.getElem?_set_self hj, r⟩
  · obtain ⟨x, h1, h2⟩ := e.get j y q
    exact ⟨x, by rw [List.getElem?_set_ne (Ne.symm z)]; exact h1, h2⟩
theorem ER.forget {d : En} {σ : St} (e : ER K w d σ) (i : Nat) (o : Option V) : ER K w (d.set i none) (σ.set i o) := by
  refine ⟨by simp [e.len], fun j y h => ?_⟩
  rcases get_set h with ⟨z, q⟩ | ⟨z, q⟩
  · cases q
  · obtain ⟨x, h1, h2⟩ := e.get j y q
    exact ⟨x, by rw [List.getElem?_set_ne (Ne.symm z)]; exact h1, h2⟩
def enStart (n : Nat) (us : List U) : En := us.map some ++ List.replicate (n - us.length) none
theorem ER.start {N : List Str} {us : List U} {vs : List V} (r : VRs K w us vs) : ER K w (enStart N.length us) (start N vs) := by
  refine ⟨by simp [enStart, L2.start, r.length], fun i u h => ?_⟩
  unfold enStart at h
  by_cases hi : i < us.length
  · rw [List.getElem?_append_left (by simpa using hi), List.getElem?_map] at h
    cases q : us[i]? with
    | none => rw [q] at h; cases h
    | some y =>
      rw [q] at h
      cases h
      obtain ⟨v, h1, h2⟩ := r.get q
      refine ⟨v, ?_, h2⟩
      unfold L2.start
      rw [List.getElem?_append_left (by simpa [← r.length] using hi), List.getElem?_map, h1]
      rfl
  · rw [List.getElem?_append_right (by simpa using hi)] at h
    have := List.mem_of_getElem? h
    rw [List.mem_replicate] at this
    cases this.2
end
end DL

set_option Elab.async false
set_option linter.all false
set_option maxRecDepth 100000
namespace DL
open PySem PySem.Spec L2

abbrev FE := En → Sto → R U
abbrev FT := En → Sto → R Bool
abbrev FA := En → Sto → R (List U)
inductive Fl where
  | nx (d : En) | rt (u : U) | bk (d : En) | ct (d : En) | ex (x : Exc) (d : En)
abbrev FS := En → Sto → R Fl

/-- an exception in the air: its class, its own dict -/
def XRel (K : KM) (w : Wd) (x : Exc) (cls : Value) (d : Option Addr) : Prop :=
  K.mg x.cls = some cls ∧ ∃ (dd : Addr) (v : V), d = some dd ∧ w.H dd = some (.xd [(x.fld, v)]) ∧ VR K w x.arg v
def XPost (X : Cx) (Wx : WX) (σ : L2.St) (w : Wd) (x : Exc) (S' : Sto) : Prop :=
  ∀ (w' : Wd) (cls : Value) (d : Option Addr), w'.S = S' → Stp w w' → SR (KMof X) w' → XRel (KMof X) w' x cls d → Wx cls d σ w'.H
def OkE (X : Cx) (w : Wd) (Q : VK) (u : U) (S' : Sto) : Prop :=
  ∀ (w' : Wd) (v : V), w'.S = S' → Stp w w' → SR (KMof X) w' → VR (KMof X) w' u v → Q v w'.H
def OkT (X : Cx) (w : Wd) (Q : Bool → Hp → Prop) (b : Bool) (S' : Sto) : Prop :=
  ∀ (w' : Wd), w'.S = S' → Stp w w' → SR (KMof X) w' → Q b w'.H
def OkA (X : Cx) (w : Wd) (Q : List V → Hp → Prop) (us : List U) (S' : Sto) : Prop :=
  ∀ (w' : Wd) (vs : List V), w'.S = S' → Stp w w' → SR (KMof X) w' → VRs (KMof X) w' us vs → Q vs w'.H
/-- a new list -/
def OkL (X : Cx) (w : Wd) (Q : VK) (us : List U) (S' : Sto) : Prop :=
  ∀ (w' : Wd) (p : Addr) (xs : List V), w'.S = S' → Stp w w' → SR (KMof X) w' → VRs (KMof X) w' us xs → w'.H p = none → Q (.ref p) (upd w'.H p (.lst xs))
def OkS (X : Cx) (Wx : WX) (w : Wd) (D : Ends) (fl : Fl) (S' : Sto) : Prop :=
  ∀ (w' : Wd), w'.S = S' → Stp w w' → SR (KMof X) w' → match fl with
    | .nx d => ∀ σ', ER (KMof X) w' d σ' → D.nx σ' w'.H
    | .rt u => ∀ v, VR (KMof X) w' u v → D.rt v w'.H
    | .bk d => ∀ σ', ER (KMof X) w' d σ' → D.bk σ' w'.H
    | .ct d => ∀ σ', ER (KMof X) w' d σ' → D.ct σ' w'.H
    | .ex x d => ∀ σ', ER (KMof X) w' d σ' → ∀ (cls : Value) (dd : Option Addr), XRel (KMof X) w' x cls dd → Wx cls dd σ' w'.H
section
variable {X : Cx} {Wx : WX} {w w1 : Wd}
theorem XPost.up {σ : L2.St} {x : Exc} {S' : Sto} (h : XPost X Wx σ w x S') (st : Stp w w1) : XPost X Wx σ w1 x S' := fun w' cls d e s2 sr xr => h w' cls d e (st.trans s2) sr xr
theorem OkE.up {Q : VK} {u : U} {S' : Sto} (h : OkE X w Q u S') (st : Stp w w1) : OkE X w1 Q u S' := fun w' v e s2 sr r => h w' v e (st.trans s2) sr r
theorem OkT.up {Q : Bool → Hp → Prop} {u : Bool} {S' : Sto} (h : OkT X w Q u S') (st : Stp w w1) : OkT X w1 Q u S' := fun w' e s2 sr => h w' e (st.trans s2) sr
theorem OkA.up {Q : List V → Hp → Prop} {u : List U} {S' : Sto} (h : OkA X w Q u S') (st : Stp w w1) : OkA X w1 Q u S' := fun w' v e s2 sr r => h w' v e (st.trans s2) sr r
theorem OkL.up {Q : VK} {u : List U} {S' : Sto} (h : OkL X w Q u S') (st : Stp w w1) : OkL X w1 Q u S' := fun w' p xs e s2 sr r hp => h w' p xs e (st.trans s2) sr r hp
theorem OkS.up {D : Ends} {fl : Fl} {S' : Sto} (h : OkS X Wx w D fl S') (st : Stp w w1) : OkS X Wx w1 D fl S' := fun w' e s2 sr => h w' e (st.trans s2) sr
theorem OkE.here {Q : VK} {u : U} (h : OkE X w Q u w.S) (s : SR (KMof X) w) {v : V} (r : VR (KMof X) w u v) : Q v w.H := h w v rfl (Stp.refl w) s r
end

/-- the reading of an expression that does f -/
def tE (X : Cx) (Wx : WX) (f : FE) : TE := fun σ H Q => ∃ (w : Wd) (d : En), w.H = H ∧ SR (KMof X) w ∧ ER (KMof X) w d σ ∧ Pst (f d w.S) (OkE X w Q) (XPost X Wx σ w)
def tT (X : Cx) (Wx : WX) (f : FT) : TT := fun σ H Q => ∃ (w : Wd) (d : En), w.H = H ∧ SR (KMof X) w ∧ ER (KMof X) w d σ ∧ Pst (f d w.S) (OkT X w Q) (XPost X Wx σ w)
def tA (X : Cx) (Wx : WX) (f : FA) : TA := fun σ H Q => ∃ (w : Wd) (d : En), w.H = H ∧ SR (KMof X) w ∧ ER (KMof X) w d σ ∧ Pst (f d w.S) (OkA X w Q) (XPost X Wx σ w)
def tL (X : Cx) (Wx : WX) (f : FA) : TE := fun σ H Q => ∃ (w : Wd) (d : En), w.H = H ∧ SR (KMof X) w ∧ ER (KMof X) w d σ ∧ Pst (f d w.S) (OkL X w Q) (XPost X Wx σ w)
def tS (X : Cx) (Wx : WX) (f : FS) : TS := fun D σ H => ∃ (w : Wd) (d : En), w.H = H ∧ SR (KMof X) w ∧ ER (KMof X) w d σ ∧ Pst (f d w.S) (OkS X Wx w D) (fun _ _ => False)
def SimE (X : Cx) (Wx : WX) (e : Expr) (f : FE) : Prop := PE X e (tE X Wx f)
def SimT (X : Cx) (Wx : WX) (e : Expr) (f : FT) : Prop := PT X e (tT X Wx f)
def SimW (X : Cx) (Wx : WX) (e : Expr) (f : FT) : Prop := PW X e (tT X Wx f)
def SimA (X : Cx) (Wx : WX) (es : List Expr) (f : FA) : Prop := PA X es (tA X Wx f)
/-- an expression that makes a new list -/
def SimL (X : Cx) (Wx : WX) (e : Expr) (f : FA) : Prop := PE X e (tL X Wx f)
def SimS (X : Cx) (Wx : WX) (st : Stmt) (f : FS) : Prop := PS X st (tS X Wx f)
def SimB (X : Cx) (Wx : WX) (sts : List Stmt) (f : FS) : Prop := PSs X sts (tS X Wx f)
section
variable {X : Cx} {Wx : WX} {e : Expr} {es : List Expr} {st : Stmt} {sts : List Stmt}
theorem SimE.out {f : FE} (h : SimE X Wx e f) : ∃ t, PE X e t ∧ ∀ (w : Wd) (d : En) (σ : L2.St) (Q : VK), SR (KMof X) w → ER (KMof X) w d σ → Pst (f d w.S) (OkE X w Q) (XPost X Wx σ w) → t σ w.H Q := ⟨_, h, fun w d _ _ s e p => ⟨w, d, rfl, s, e, p⟩⟩
theorem SimE.mk {f : FE} {t : TE} (p : PE X e t) (h : ∀ (w : Wd) (d : En) (σ : L2.St) (Q : VK), SR (KMof X) w → ER (KMof X) w d σ → Pst (f d w.S) (OkE X w Q) (XPost X Wx σ w) → t σ w.H Q) : SimE X Wx e f :=
  ⟨fun pins s σ H Q I ⟨w, d, e, sr, er, q⟩ => p.run pins s σ H Q I (by subst e; exact h w d σ Q sr er q)⟩
theorem SimL.out {f : FA} (h : SimL X Wx e f) : ∃ t, PE X e t ∧ ∀ (w : Wd) (d : En) (σ : L2.St) (Q : VK), SR (KMof X) w → ER (KMof X) w d σ → Pst (f d w.S) (OkL X w Q) (XPost X Wx σ w) → t σ w.H Q := ⟨_, h, fun w d _ _ s e p => ⟨w, d, rfl, s, e, p⟩⟩
theorem SimL.mk {f : FA} {t : TE} (p : PE X e t) (h : ∀ (w : Wd) (d : En) (σ : L2.St) (Q : VK), SR (KMof X) w → ER (KMof X) w d σ → Pst (f d w.S) (OkL X w Q) (XPost X Wx σ w) → t σ w.H Q) : SimL X Wx e f :=
  ⟨fun pins s σ H Q I ⟨w, d, e, sr, er, q⟩ => p.run pins s σ H Q I (by subst e; exact h w d σ Q sr er q)⟩
theorem SimT.out {f : FT} (h : SimT X Wx e f) : ∃ t, PT X e t ∧ ∀ (w : Wd) (d : En) (σ : L2.St) (Q : Bool → Hp → Prop), SR (KMof X) w → ER (KMof X) w d σ → Pst (f d w.S) (OkT X w Q) (XPost X Wx σ w) → t σ w.H Q := ⟨_, h, fun w d _ _ s e p => ⟨w, d, rfl, s, e, p⟩⟩
theorem SimT.mk {f : FT} {t : TT} (p : PT X e t) (h : ∀ (w : Wd) (d : En) (σ : L2.St) (Q : Bool → Hp → Prop), SR (KMof X) w → ER (KMof X) w d σ → Pst (f d w.S) (OkT X w Q) (XPost X Wx σ w) → t σ w.H Q) : SimT X Wx e f :=
  ⟨fun pins s σ H Q I ⟨w, d, e, sr, er, q⟩ => p.run pins s σ H Q I (by subst e; exact h w d σ Q sr er q)⟩
theorem SimW.out {f : FT} (h : SimW X Wx e f) : ∃ t, PW X e t ∧ ∀ (w : Wd) (d : En) (σ : L2.St) (Q : Bool → Hp → Prop), SR (KMof X) w → ER (KMof X) w d σ → Pst (f d w.S) (OkT X w Q) (XPost X Wx σ w) → t σ w.H Q := ⟨_, h, fun w d _ _ s e p => ⟨w, d, rfl, s, e, p⟩⟩
theorem SimW.mk {f : FT} {t : TT} (p : PW X e t) (h : ∀ (w : Wd) (d : En) (σ : L2.St) (Q : Bool → Hp → Prop), SR (KMof X) w → ER (KMof X) w d σ → Pst (f d w.S) (OkT X w Q) (XPost X Wx σ w) → t σ w.H Q) : SimW X Wx e f :=
  ⟨fun whole pins s σ H Q I ⟨w, d, e, sr, er, q⟩ => p.run whole pins s σ H Q I (by subst e; exact h w d σ Q sr er q)⟩
theorem SimA.out {f : FA} (h : SimA X Wx es f) : ∃ t, PA X es t ∧ ∀ (w : Wd) (d : En) (σ : L2.St) (Q : List V → Hp → Prop), SR (KMof X) w → ER (KMof X) w d σ → Pst (f d w.S) (OkA X w Q) (XPost X Wx σ w) → t σ w.H Q := ⟨_, h, fun w d _ _ s e p => ⟨w, d, rfl, s, e, p⟩⟩
theorem SimA.mk {f : FA} {t : TA} (p : PA X es t) (h : ∀ (w : Wd) (d : En) (σ : L2.St) (Q : List V → Hp → Prop), SR (KMof X) w → ER (KMof X) w d σ → Pst (f d w.S) (OkA X w Q) (XPost X Wx σ w) → t σ w.H Q) : SimA X Wx es f :=
  ⟨fun pos pins s σ H Q I ⟨w, d, e, sr, er, q⟩ => p.run pos pins s σ H Q I (by subst e; exact h w d σ Q sr er q)⟩
theorem SimS.out {f : FS} (h : SimS X Wx st f) : ∃ t, PS X st t ∧ ∀ (w : Wd) (d : En) (σ : L2.St) (D : Ends), SR (KMof X) w → ER (KMof X) w d σ → Pst (f d w.S) (OkS X Wx w D) (fun _ _ => False) → t D σ w.H := ⟨_, h, fun w d _ _ s e p => ⟨w, d, rfl, s, e, p⟩⟩
theorem SimS.mk {f : FS} {t : TS} (p : PS X st t) (h : ∀ (w : Wd) (d : En) (σ : L2.St) (D : Ends), SR (KMof X) w → ER (KMof X) w d σ → Pst (f d w.S) (OkS X Wx w D) (fun _ _ => False) → t D σ w.H) : SimS X Wx st f :=
  ⟨fun pins s σ H D I ⟨w, d, e, sr, er, q⟩ => p.run pins s σ H D I (by subst e; exact h w d σ D sr er q)⟩
theorem SimB.out {f : FS} (h : SimB X Wx sts f) : ∃ t, PSs X sts t ∧ ∀ (w : Wd) (d : En) (σ : L2.St) (D : Ends), SR (KMof X) w → ER (KMof X) w d σ → Pst (f d w.S) (OkS X Wx w D) (fun _ _ => False) → t D σ w.H := ⟨_, h, fun w d _ _ s e p => ⟨w, d, rfl, s, e, p⟩⟩
theorem SimB.mk {f : FS} {t : TS} (p : PSs X sts t) (h : ∀ (w : Wd) (d : En) (σ : L2.St) (D : Ends), SR (KMof X) w → ER (KMof X) w d σ → Pst (f d w.S) (OkS X Wx w D) (fun _ _ => False) → t D σ w.H) : SimB X Wx sts f :=
  ⟨fun pins s σ H D I ⟨w, d, e, sr, er, q⟩ => p.run pins s σ H D I (by subst e; exact h w d σ D sr er q)⟩
end

/-! ### names, constants -/
def fVar (i : Nat) : FE := fun d S => match d[i]? with
  | some (some u) => .ok u S
  | _ => .bad
def fC (u : U) : FE := fun _ S => .ok u S
section
variable {X : Cx} {Wx : WX}
theorem se_var (i : Nat) {x : Str} {pos : Pos} (hN : X.N[i]? = some x := by rfl) (hv : Vis X.env.scope x := by first | exact Or.inl rfl | exact Or.inr (Or.inl rfl) | exact Or.inr (Or.inr rfl))
    (hd : (x == ("__debug__" : Str)) = false := by decide) (hcd : (x == ("__classdict__" : Str)) = false := by decide) : SimE X Wx (.Name x pos) (fVar i) := by
  refine SimE.mk (pe_var hN hv hd hcd) (fun w d σ Q s e h => ?_)
  unfold fVar at h
  split at h
  · rename_i u hu
    obtain ⟨v, h1, h2⟩ := e.get i u hu
    exact ⟨v, h1, OkE.here h s h2⟩
  · exact h.elim
theorem se_int {i : Int} {j pos} : SimE X Wx (.Constant (.int i) j pos) (fC (.int i)) := SimE.mk (pe_int) (fun w d σ Q s e h => OkE.here h s (.int i))
theorem se_bl {b : Bool} {j pos} : SimE X Wx (.Constant (.bool b) j pos) (fC (.bl b)) := SimE.mk (pe_bl) (fun w d σ Q s e h => OkE.here h s (.bl b))
theorem se_non {j pos} : SimE X Wx (.Constant .none j pos) (fC .non) := SimE.mk (pe_non) (fun w d σ Q s e h => OkE.here h s .non)
theorem se_str {x : Str} {j pos} : SimE X Wx (.Constant (.str x) j pos) (fC (.str x)) := SimE.mk (pe_str) (fun w d σ Q s e h => OkE.here h s (.str x))
/-- a module's name: a constant -/
theorem se_glob {x : Str} {v : V} {u : U} {z : Value} {pos : Pos} (hg : Gl X x) (hm : X.mg x = some z) (r : RelV v z) (hv : ∀ w, VR (KMof X) w u v) (hd : (x == ("__debug__" : Str)) = false := by decide) : SimE X Wx (.Name x pos) (fC u) :=
  SimE.mk (pe_glob hg hm r hd) (fun w d σ Q s e h => OkE.here h s (hv w))
theorem se_bltn {x : Str} {v : V} {u : U} {z : Value} {pos : Pos} (hg : Gl X x) (hm : X.mg x = none) (hv : bootBuiltins x = some z) (r : RelV v z) (hr : ∀ w, VR (KMof X) w u v) (hn : x ≠ "__name__" := by decide) (hd : (x == ("__debug__" : Str)) = false := by decide) : SimE X Wx (.Name x pos) (fC u) :=
  SimE.mk (pe_bltn hg hm hv r hn hd) (fun w d σ Q s e h => OkE.here h s (hr w))

/-! ### two values -/
def OpSim (X : Cx) (F : Value → Value → Sem Value) (g : U → U → Sto → R U) : Prop := ∃ r, OpR X F r ∧
  ∀ (w : Wd) (x y : U) (v v' : V) (Q : VK), SR (KMof X) w → VR (KMof X) w x v → VR (KMof X) w y v' → Pst (g x y w.S) (OkE X w Q) (fun _ _ => False) → r v v' w.H Q
def f2 (g : U → U → Sto → R U) (fa fb : FE) : FE := fun d S => (fa d S).bind fun x S1 => (fb d S1).bind fun y S2 => g x y S2
/-- what g does to no exception -/
def noX (r : R U) : Prop := match r with
  | .exc _ _ => False
  | _ => True
theorem pst_noX {r : R U} {P : U → Sto → Prop} {E : Exc → Sto → Prop} (h : Pst r P E) (n : noX r) : Pst r P (fun _ _ => False) := by
  cases r with
  | ok a S => exact h
  | exc x S => exact n
  | bad => exact h
theorem two {a b : Expr} {ta tb : TE} {fa fb : FE}
    (ha : ∀ (w : Wd) (d : En) (σ : L2.St) (Q : VK), SR (KMof X) w → ER (KMof X) w d σ → Pst (fa d w.S) (OkE X w Q) (XPost X Wx σ w) → ta σ w.H Q)
    (hb : ∀ (w : Wd) (d : En) (σ : L2.St) (Q : VK), SR (KMof X) w → ER (KMof X) w d σ → Pst (fb d w.S) (OkE X w Q) (XPost X Wx σ w) → tb σ w.H Q)
    {g : U → U → Sto → R U} {r : R2} (hg : ∀ (w : Wd) (x y : U) (v v' : V) (Q : VK), SR (KMof X) w → VR (KMof X) w x v → VR (KMof X) w y v' → Pst (g x y w.S) (OkE X w Q) (fun _ _ => False) → r v v' w.H Q) (hn : ∀ x y S, noX (g x y S))
    (w : Wd) (d : En) (σ : L2.St) (Q : VK) (s : SR (KMof X) w) (e : ER (KMof X) w d σ) (h : Pst (f2 g fa fb d w.S) (OkE X w Q) (XPost X Wx σ w)) :
    ta σ w.H fun x H1 => tb σ H1 fun y H2 => r x y H2 Q := by
  refine ha w d σ _ s e ((Pst.of_bind h).mono (fun x S1 h1 w1 v1 eS st s1 r1 => ?_) fun _ _ q => q)
  subst eS
  refine hb w1 d σ _ s1 (e.ext st.x s) ((Pst.of_bind h1).mono (fun y S2 h2 w2 v2 eS2 st2 s2 r2 => ?_) fun _ _ q => q.up st)
  subst eS2
  exact hg w2 x y v1 v2 Q s2 (r1.ext st2.x s1) r2 ((pst_noX h2 (hn x y w2.S)).mono (fun _ _ q => q.up (st.trans st2)) fun _ _ q => q)
theorem se_op {a b : Expr} {fa fb : FE} {op : Operator} {g : U → U → Sto → R U} {pos : Pos} (ho : OpSim X (binaryOp op) g) (hn : ∀ x y S, noX (g x y S)) (ha : SimE X Wx a fa) (hb : SimE X Wx b fb) : SimE X Wx (.BinOp a op b pos) (f2 g fa fb) := by
  obtain ⟨r, ho, hg⟩ := ho
  obtain ⟨ta, pa, ha⟩ := ha.out
  obtain ⟨tb, pb, hb⟩ := hb.out
  exact SimE.mk (pe_op ho pa pb) (fun w d σ Q s e h => two (a := a) (b := b) ha hb hg hn w d σ Q s e h)
theorem se_cmp {a b : Expr} {fa fb : FE} {op : CmpOp} {g : U → U → Sto → R U} {pos : Pos} (ho : OpSim X (compareOp op) g) (hn : ∀ x y S, noX (g x y S)) (ha : SimE X Wx a fa) (hb : SimE X Wx b fb) (hm : behindInMarks op b = false) : SimE X Wx (.Compare a [op] [b] pos) (f2 g fa fb) := by
  obtain ⟨r, ho, hg⟩ := ho
  obtain ⟨ta, pa, ha⟩ := ha.out
  obtain ⟨tb, pb, hb⟩ := hb.out
  exact SimE.mk (pe_cmpR ho pa pb hm) (fun w d σ Q s e h => two (a := a) (b := b) ha hb hg hn w d σ Q s e h)
/-- a bool as a test's answer -/
def asB (r : R U) : R Bool := r.bind fun u S => match u with
  | .bl b => .ok b S
  | _ => .bad
theorem asB_post {r : R U} {w : Wd} {Q : Bool → Hp → Prop} {E : Exc → Sto → Prop} (h : Pst (asB r) (OkT X w Q) E) : Pst r (OkE X w fun x H => ∃ k, x = .bl k ∧ Q k H) E := by
  unfold asB at h
  refine (Pst.of_bind h).mono (fun u S h1 w1 v e st s1 rv => ?_) fun _ _ q => q
  cases rv with
  | bl b => exact ⟨b, rfl, h1 w1 e st s1⟩
  | _ => exact h1.elim
theorem st_cmp {a b : Expr} {fa fb : FE} {op : CmpOp} {g : U → U → Sto → R U} {pos : Pos} (ho : OpSim X (compareOp op) g) (hn : ∀ x y S, noX (g x y S)) (ha : SimE X Wx a fa) (hb : SimE X Wx b fb) (hm : behindInMarks op b = false) : SimT X Wx (.Compare a [op] [b] pos) (fun d S => asB (f2 g fa fb d S)) := by
  obtain ⟨r, ho, hg⟩ := ho
  obtain ⟨ta, pa, ha⟩ := ha.out
  obtain ⟨tb, pb, hb⟩ := hb.out
  exact SimT.mk (pt_cmpR ho pa pb hm) (fun w d σ Q s e h => two (a := a) (b := b) ha hb hg hn w d σ _ s e (asB_post h))
def fCh (g g' : U → U → Sto → R U) (fa fb fc : FE) : FE := fun d S => (fa d S).bind fun x S1 => (fb d S1).bind fun y S2 => (g x y S2).bind fun z S3 => match z with
  | .bl true => (fc d S3).bind fun t S4 => g' y t S4
  | .bl false => .ok (.bl false) S3
  | _ => .bad
theorem chain {a b c : Expr} {ta tb tc : TE} {fa fb fc : FE}
    (ha : ∀ (w : Wd) (d : En) (σ : L2.St) (Q : VK), SR (KMof X) w → ER (KMof X) w d σ → Pst (fa d w.S) (OkE X w Q) (XPost X Wx σ w) → ta σ w.H Q)
    (hb : ∀ (w : Wd) (d : En) (σ : L2.St) (Q : VK), SR (KMof X) w → ER (KMof X) w d σ → Pst (fb d w.S) (OkE X w Q) (XPost X Wx σ w) → tb σ w.H Q)
    (hc : ∀ (w : Wd) (d : En) (σ : L2.St) (Q : VK), SR (KMof X) w → ER (KMof X) w d σ → Pst (fc d w.S) (OkE X w Q) (XPost X Wx σ w) → tc σ w.H Q)
    {g g' : U → U → Sto → R U} {r r' : R2} (hg : ∀ (w : Wd) (x y : U) (v v' : V) (Q : VK), SR (KMof X) w → VR (KMof X) w x v → VR (KMof X) w y v' → Pst (g x y w.S) (OkE X w Q) (fun _ _ => False) → r v v' w.H Q) (hn : ∀ x y S, noX (g x y S))
    (hg' : ∀ (w : Wd) (x y : U) (v v' : V) (Q : VK), SR (KMof X) w → VR (KMof X) w x v → VR (KMof X) w y v' → Pst (g' x y w.S) (OkE X w Q) (fun _ _ => False) → r' v v' w.H Q) (hn' : ∀ x y S, noX (g' x y S))
    (w : Wd) (d : En) (σ : L2.St) (Q : VK) (s : SR (KMof X) w) (e : ER (KMof X) w d σ) (h : Pst (fCh g g' fa fb fc d w.S) (OkE X w Q) (XPost X Wx σ w)) : tChain r r' ta tb tc σ w.H Q := by
  refine ha w d σ _ s e ((Pst.of_bind h).mono (fun x S1 h1 w1 v1 eS st s1 r1 => ?_) fun _ _ q => q)
  subst eS
  have e1 := e.ext st.x s
  refine hb w1 d σ _ s1 e1 ((Pst.of_bind h1).mono (fun y S2 h2 w2 v2 eS2 st2 s2 r2 => ?_) fun _ _ q => q.up st)
  subst eS2
  have st02 := st.trans st2
  have e2 := e1.ext st2.x s1
  refine hg w2 x y v1 v2 _ s2 (r1.ext st2.x s1) r2 ((pst_noX (Pst.of_bind h2) (hn x y w2.S)).mono (fun z S3 h3 w3 v3 eS3 st3 s3 r3 => ?_) fun _ _ q => q)
  subst eS3
  have st03 := st02.trans st3
  have e3 := e2.ext st3.x s2
  cases r3 with
  | bl k =>
    refine ⟨k, rfl, ?_⟩
    cases k with
    | false => exact OkE.here (h3.up st03) s3 (.bl false)
    | true =>
      show tc σ w3.H fun w' H4 => r' v2 w' H4 Q
      have h3 : Pst ((fc d w3.S).bind fun t S4 => g' y t S4) (OkE X w Q) (XPost X Wx σ w) := h3
      refine hc w3 d σ _ s3 e3 ((Pst.of_bind h3).mono (fun t S4 h4 w4 v4 eS4 st4 s4 r4 => ?_) fun _ _ q => q.up st03)
      subst eS4
      exact hg' w4 y t v2 v4 Q s4 ((r2.ext st3.x s2).ext st4.x s3) r4 ((pst_noX h4 (hn' y t w4.S)).mono (fun _ _ q => q.up (st03.trans st4)) fun _ _ q => q)
  | _ => exact h3.elim
theorem se_chain {a b c : Expr} {fa fb fc : FE} {op op' : CmpOp} {g g' : U → U → Sto → R U} {pos : Pos} (ho : OpSim X (compareOp op) g) (hn : ∀ x y S, noX (g x y S)) (ho' : OpSim X (compareOp op') g') (hn' : ∀ x y S, noX (g' x y S))
    (ha : SimE X Wx a fa) (hb : SimE X Wx b fb) (hc : SimE X Wx c fc) (hm : lastMarks [op, op'] [b, c] = false := by with_unfolding_all rfl) : SimE X Wx (.Compare a [op, op'] [b, c] pos) (fCh g g' fa fb fc) := by
  obtain ⟨r, ho, hg⟩ := ho
  obtain ⟨r', ho', hg'⟩ := ho'
  obtain ⟨ta, pa, ha⟩ := ha.out
  obtain ⟨tb, pb, hb⟩ := hb.out
  obtain ⟨tc, pc, hc⟩ := hc.out
  exact SimE.mk (pe_chain ho ho' pa pb pc hm) (fun w d σ Q s e h => chain (a := a) (b := b) (c := c) ha hb hc hg hn hg' hn' w d σ Q s e h)
theorem st_chain {a b c : Expr} {fa fb fc : FE} {op op' : CmpOp} {g g' : U → U → Sto → R U} {pos : Pos} (ho : OpSim X (compareOp op) g) (hn : ∀ x y S, noX (g x y S)) (ho' : OpSim X (compareOp op') g') (hn' : ∀ x y S, noX (g' x y S))
    (ha : SimE X Wx a fa) (hb : SimE X Wx b fb) (hc : SimE X Wx c fc) (hm : lastMarks [op, op'] [b, c] = false := by with_unfolding_all rfl) : SimT X Wx (.Compare a [op, op'] [b, c] pos) (fun d S => asB (fCh g g' fa fb fc d S)) := by
  obtain ⟨r, ho, hg⟩ := ho
  obtain ⟨r', ho', hg'⟩ := ho'
  obtain ⟨ta, pa, ha⟩ := ha.out
  obtain ⟨tb, pb, hb⟩ := hb.out
  obtain ⟨tc, pc, hc⟩ := hc.out
  exact SimT.mk (pt_chain ho ho' pa pb pc hm) (fun w d σ Q s e h => chain (a := a) (b := b) (c := c) ha hb hc hg hn hg' hn' w d σ _ s e (asB_post h))

/-! ### one value -/
def f1 (g : U → Sto → R U) (fa : FE) : FE := fun d S => (fa d S).bind g
def UnSim (X : Cx) (F : Value → Sem Value) (g : U → Sto → R U) : Prop := ∃ r, UnR X F r ∧ (∀ x S, noX (g x S)) ∧ ∀ (w : Wd) (x : U) (v : V) (Q : VK), SR (KMof X) w → VR (KMof X) w x v → Pst (g x w.S) (OkE X w Q) (fun _ _ => False) → r v w.H Q
theorem se_un {a : Expr} {fa : FE} {op : UnaryOp} {g : U → Sto → R U} {pos : Pos} (ho : UnSim X (unaryOp op) g) (ha : SimE X Wx a fa) : SimE X Wx (.UnaryOp op a pos) (f1 g fa) := by
  obtain ⟨r, ho, hn, hg⟩ := ho
  obtain ⟨ta, pa, ha⟩ := ha.out
  refine SimE.mk (pe_un ho pa) (fun w d σ Q s e h => ?_)
  refine ha w d σ _ s e ((Pst.of_bind h).mono (fun x S1 h1 w1 v1 eS st s1 r1 => ?_) fun _ _ q => q)
  subst eS
  exact hg w1 x v1 Q s1 r1 ((pst_noX h1 (hn x w1.S)).mono (fun _ _ q => q.up st) fun _ _ q => q)

/-! ### truth -/
def lenO : Ob → Option Nat
  | .lst us => some us.length
  | .dic ks _ => some ks.length
  | .ins _ _ => none
  | .dead => none
/-- a value's truth -/
def truU (u : U) (S : Sto) : Option Bool := match u with
  | .non => some false
  | .bl b => some b
  | .int i => some (i != 0)
  | .str x => if x.length ≤ sizeLine then some ((x.length : Int) != 0) else none
  | .tup us => some (!us.isEmpty)
  | .lst us => some (!us.isEmpty)
  | .frz us => some (!us.isEmpty)
  | .dic ks _ => some (!ks.isEmpty)
  | .loc n => match S[n]? with
    | some (.lst us) => some (!us.isEmpty)
    | some (.dic ks _) => some (!ks.isEmpty)
    | _ => none
  | .ty _ => none
  | .exc _ _ _ => none
  | .cl _ => none
theorem vrs_empty {K : KM} {w : Wd} {us : List U} {xs : List V} (r : VRs K w us xs) : us.isEmpty = xs.isEmpty := by
  cases r <;> rfl
theorem zip_empty {ks : List Key} {us : List U} {xs : List V} {K : KM} {w : Wd} (l : ks.length = us.length) (r : VRs K w us xs) : (ks.zip xs).isEmpty = ks.isEmpty := by
  have h := r.length
  cases ks with
  | nil => rfl
  | cons k ks =>
    cases xs with
    | nil => rw [List.length_cons] at l; rw [List.length_nil] at h; omega
    | cons x xs => rfl
theorem truU_ok {w : Wd} {u : U} {v : V} {b : Bool} (s : SR (KMof X) w) (r : VR (KMof X) w u v) (h : truU u w.S = some b) : TruV X.K v w.H b := by
  cases r with
  | non => cases h; rfl
  | bl c => cases h; rfl
  | int i => cases h; rfl
  | str x =>
    unfold truU at h
    dsimp only at h
    split at h
    · rename_i hl; cases h; exact ⟨hl, rfl⟩
    · cases h
  | tup hq rs => cases h; exact .inr (.inl ⟨_, hq.sq, by rw [vrs_empty rs]⟩)
  | lst hq n rs => cases h; exact .inl ⟨_, SqL.of hq, by rw [vrs_empty rs]⟩
  | frz hq rs => cases h; exact .inl ⟨_, hq.sq, by rw [vrs_empty rs]⟩
  | dic hq n l rs => cases h; exact .inr (.inr ⟨_, hq, by rw [zip_empty l rs]⟩)
  | @loc n a hm =>
    unfold truU at h
    dsimp only at h
    split at h
    · rename_i us hS
      cases h
      obtain ⟨xs, q, rs⟩ := s.obj n a _ hm hS
      exact .inl ⟨xs, SqL.of q, by rw [vrs_empty rs]⟩
    · rename_i ks us hS
      cases h
      obtain ⟨xs, q, l, rs⟩ := s.obj n a _ hm hS
      exact .inr (.inr ⟨_, q, by rw [zip_empty l rs]⟩)
    · cases h
  | ty n => cases h
  | exc _ _ _ _ => cases h
  | cl _ => cases h
def oB (o : Option Bool) (S : Sto) : R Bool := match o with
  | some b => .ok b S
  | none => .bad
def fTru (fa : FE) : FT := fun d S => (fa d S).bind fun u S1 => oB (truU u S1) S1
theorem tru_post {w : Wd} {ta : TE} {fa : FE} (ha : ∀ (w : Wd) (d : En) (σ : L2.St) (Q : VK), SR (KMof X) w → ER (KMof X) w d σ → Pst (fa d w.S) (OkE X w Q) (XPost X Wx σ w) → ta σ w.H Q)
    {d : En} {σ : L2.St} {Q : Bool → Hp → Prop} (s : SR (KMof X) w) (e : ER (KMof X) w d σ) (h : Pst (fTru fa d w.S) (OkT X w Q) (XPost X Wx σ w)) : ta σ w.H fun x H1 => ∃ k, TruV X.K x H1 k ∧ Q k H1 := by
  refine ha w d σ _ s e ((Pst.of_bind h).mono (fun u S1 h1 w1 v1 eS st s1 r1 => ?_) fun _ _ q => q)
  subst eS
  unfold oB at h1
  split at h1
  · rename_i b hb
    exact ⟨b, truU_ok s1 r1 hb, h1 w1 rfl st s1⟩
  · exact h1.elim
/-- an expression of any kind as a test -/
theorem st_val {e : Expr} {f : FE} (h : SimE X Wx e f) (he : ∀ whole, isTrue e X.env whole = (do let v ← whole; standAt e.pos; holding [v] (truthy v)) := by intro _; rfl) : SimT X Wx e (fTru f) := by
  obtain ⟨t, p, h⟩ := h.out
  exact SimT.mk (pt_truth p he) (fun w d σ Q s e h1 => tru_post h s e h1)

/-! ### and, or, not -/
def fAnd (fa fb : FT) : FT := fun d S => (fa d S).bind fun b S1 => if b then fb d S1 else .ok false S1
def fOr (fa fb : FT) : FT := fun d S => (fa d S).bind fun b S1 => if b then .ok true S1 else fb d S1
def fNot (fa : FT) : FT := fun d S => (fa d S).bind fun b S1 => .ok (!b) S1
variable {a b : Expr} {pos : Pos} {rest : List Expr}
theorem SimW.t {e : Expr} {f : FT} (h : SimW X Wx e f) : SimT X Wx e f := let ⟨t, p, h⟩ := h.out; SimT.mk p.pt h
theorem sw_and1 {f : FT} (h : SimT X Wx a f) : SimW X Wx (.BoolOp .And [a] pos) f := let ⟨t, p, h⟩ := h.out; SimW.mk (pw_and1 p) h
theorem sw_or1 {f : FT} (h : SimT X Wx a f) : SimW X Wx (.BoolOp .Or [a] pos) f := let ⟨t, p, h⟩ := h.out; SimW.mk (pw_or1 p) h
theorem sw_and {fa fb : FT} (ha : SimT X Wx a fa) (hb : SimW X Wx (.BoolOp .And (b :: rest) pos) fb) : SimW X Wx (.BoolOp .And (a :: b :: rest) pos) (fAnd fa fb) := by
  obtain ⟨ta, pa, ha⟩ := ha.out
  obtain ⟨tb, pb, hb⟩ := hb.out
  refine SimW.mk (pw_and pa pb) (fun w d σ Q s e h => ?_)
  refine ha w d σ _ s e ((Pst.of_bind h).mono (fun c S1 h1 w1 eS st s1 => ?_) fun _ _ q => q)
  subst eS
  cases c with
  | true => exact hb w1 d σ Q s1 (e.ext st.x s) (h1.mono (fun _ _ q => q.up st) fun _ _ q => q.up st)
  | false => exact h1 w1 rfl st s1
theorem sw_or {fa fb : FT} (ha : SimT X Wx a fa) (hb : SimW X Wx (.BoolOp .Or (b :: rest) pos) fb) : SimW X Wx (.BoolOp .Or (a :: b :: rest) pos) (fOr fa fb) := by
  obtain ⟨ta, pa, ha⟩ := ha.out
  obtain ⟨tb, pb, hb⟩ := hb.out
  refine SimW.mk (pw_or pa pb) (fun w d σ Q s e h => ?_)
  refine ha w d σ _ s e ((Pst.of_bind h).mono (fun c S1 h1 w1 eS st s1 => ?_) fun _ _ q => q)
  subst eS
  cases c with
  | false => exact hb w1 d σ Q s1 (e.ext st.x s) (h1.mono (fun _ _ q => q.up st) fun _ _ q => q.up st)
  | true => exact h1 w1 rfl st s1
theorem st_not {f : FT} (h : SimT X Wx a f) : SimT X Wx (.UnaryOp .Not a pos) (fNot f) := by
  obtain ⟨t, p, h⟩ := h.out
  refine SimT.mk (pt_not p) (fun w d σ Q s e h0 => ?_)
  exact h w d σ _ s e ((Pst.of_bind h0).mono (fun c S1 h1 w1 eS st s1 => h1 w1 eS st s1) fun _ _ q => q)
/-- as values -/
def fAndV (fa fb : FE) : FE := fun d S => (fa d S).bind fun u S1 => match truU u S1 with
  | some true => fb d S1
  | some false => .ok u S1
  | none => .bad
def fOrV (fa fb : FE) : FE := fun d S => (fa d S).bind fun u S1 => match truU u S1 with
  | some true => .ok u S1
  | some false => fb d S1
  | none => .bad
def fNotV (fa : FE) : FE := fun d S => (fa d S).bind fun u S1 => match truU u S1 with
  | some b => .ok (.bl (!b)) S1
  | none => .bad
theorem se_one {op} {f : FE} (h : SimE X Wx a f) : SimE X Wx (.BoolOp op [a] pos) f := let ⟨t, p, h⟩ := h.out; SimE.mk (pe_one p) h
theorem se_and {fa fb : FE} (ha : SimE X Wx a fa) (hb : SimE X Wx (.BoolOp .And (b :: rest) pos) fb) : SimE X Wx (.BoolOp .And (a :: b :: rest) pos) (fAndV fa fb) := by
  obtain ⟨ta, pa, ha⟩ := ha.out
  obtain ⟨tb, pb, hb⟩ := hb.out
  refine SimE.mk (pe_andT pa pb) (fun w d σ Q s e h => ?_)
  refine ha w d σ _ s e ((Pst.of_bind h).mono (fun u S1 h1 w1 v1 eS st s1 r1 => ?_) fun _ _ q => q)
  subst eS
  split at h1
  · rename_i hb'
    refine ⟨true, truU_ok s1 r1 hb', ?_⟩
    exact hb w1 d σ Q s1 (e.ext st.x s) (h1.mono (fun _ _ q => q.up st) fun _ _ q => q.up st)
  · rename_i hb'
    exact ⟨false, truU_ok s1 r1 hb', h1 w1 v1 rfl st s1 r1⟩
  · exact h1.elim
theorem se_or {fa fb : FE} (ha : SimE X Wx a fa) (hb : SimE X Wx (.BoolOp .Or (b :: rest) pos) fb) : SimE X Wx (.BoolOp .Or (a :: b :: rest) pos) (fOrV fa fb) := by
  obtain ⟨ta, pa, ha⟩ := ha.out
  obtain ⟨tb, pb, hb⟩ := hb.out
  refine SimE.mk (pe_orT pa pb) (fun w d σ Q s e h => ?_)
  refine ha w d σ _ s e ((Pst.of_bind h).mono (fun u S1 h1 w1 v1 eS st s1 r1 => ?_) fun _ _ q => q)
  subst eS
  split at h1
  · rename_i hb'
    exact ⟨true, truU_ok s1 r1 hb', h1 w1 v1 rfl st s1 r1⟩
  · rename_i hb'
    refine ⟨false, truU_ok s1 r1 hb', ?_⟩
    exact hb w1 d σ Q s1 (e.ext st.x s) (h1.mono (fun _ _ q => q.up st) fun _ _ q => q.up st)
  · exact h1.elim
theorem se_not {fa : FE} (ha : SimE X Wx a fa) : SimE X Wx (.UnaryOp .Not a pos) (fNotV fa) := by
  obtain ⟨ta, pa, ha⟩ := ha.out
  refine SimE.mk (pe_notT pa) (fun w d σ Q s e h => ?_)
  refine ha w d σ _ s e ((Pst.of_bind h).mono (fun u S1 h1 w1 v1 eS st s1 r1 => ?_) fun _ _ q => q)
  subst eS
  split at h1
  · rename_i c hb'
    exact ⟨c, truU_ok s1 r1 hb', h1 w1 _ rfl st s1 (.bl _)⟩
  · exact h1.elim
def fIf {α : Type} (c : FT) (fa fb : En → Sto → R α) : En → Sto → R α := fun d S => (c d S).bind fun b S1 => if b then fa d S1 else fb d S1
theorem se_if {c : Expr} {fc : FT} {fa fb : FE} (hc : SimT X Wx c fc) (ha : SimE X Wx a fa) (hb : SimE X Wx b fb) : SimE X Wx (.IfExp c a b pos) (fIf fc fa fb) := by
  obtain ⟨tc, pc, hc⟩ := hc.out
  obtain ⟨ta, pa, ha⟩ := ha.out
  obtain ⟨tb, pb, hb⟩ := hb.out
  refine SimE.mk (pe_ifExp pc pa pb) (fun w d σ Q s e h => ?_)
  refine hc w d σ _ s e ((Pst.of_bind h).mono (fun k S1 h1 w1 eS st s1 => ?_) fun _ _ q => q)
  subst eS
  cases k with
  | true => exact ha w1 d σ Q s1 (e.ext st.x s) (h1.mono (fun _ _ q => q.up st) fun _ _ q => q.up st)
  | false => exact hb w1 d σ Q s1 (e.ext st.x s) (h1.mono (fun _ _ q => q.up st) fun _ _ q => q.up st)

/-! ### arguments, tuples, lists -/
def aNil : FA := fun _ S => .ok [] S
def aCons (f : FE) (g : FA) : FA := fun d S => (f d S).bind fun u S1 => (g d S1).bind fun us S2 => .ok (u :: us) S2
theorem sa_nil : SimA X Wx [] aNil := SimA.mk (pa_nil) (fun w d σ Q s e h => h w [] rfl (Stp.refl w) s .nil)
theorem sa_cons {e : Expr} {es : List Expr} {f : FE} {g : FA} (h1 : SimE X Wx e f) (h2 : SimA X Wx es g) (hs : starEach (e :: es) X.env = (false, eval e X.env) :: starEach es X.env := by rfl) : SimA X Wx (e :: es) (aCons f g) := by
  obtain ⟨t, p, h1⟩ := h1.out
  obtain ⟨u, q, h2⟩ := h2.out
  refine SimA.mk (pa_cons p q hs) (fun w d σ Q s e h => ?_)
  refine h1 w d σ _ s e ((Pst.of_bind h).mono (fun x S1 k1 w1 v1 eS st s1 r1 => ?_) fun _ _ q => q)
  subst eS
  refine h2 w1 d σ _ s1 (e.ext st.x s) ((Pst.of_bind k1).mono (fun us S2 k2 w2 vs eS2 st2 s2 r2 => ?_) fun _ _ q => q.up st)
  subst eS2
  exact k2 w2 (v1 :: vs) rfl (st.trans st2) s2 (.cons (r1.ext st2.x s1) r2)
def fTup (g : FA) : FE := fun d S => (g d S).bind fun us S1 => if us.length ≤ sizeLine then .ok (.tup us) S1 else .bad
theorem se_tup {es : List Expr} {g : FA} {k} (h : SimA X Wx es g) : SimE X Wx (.Tuple es k pos) (fTup g) := by
  obtain ⟨t, p, h⟩ := h.out
  refine SimE.mk (pe_tup p) (fun w d σ Q s e h0 => ?_)
  refine h w d σ _ s e ((Pst.of_bind h0).mono (fun us S1 h1 w1 vs eS st s1 rs => ?_) fun _ _ q => q)
  subst eS
  split at h1
  · rename_i hl
    refine ⟨by rw [← rs.length]; exact hl, fun p hp => ?_⟩
    have st1 := Stp.new s1 (o := .tup vs) hp
    exact h1 (w1.new p (.tup vs)) (.ref p) rfl (st.trans st1) (s1.new hp) (.tup (TqT.of upd_same) (rs.ext st1.x s1))
  · exact h1.elim
def aLst (g : FA) : FA := fun d S => (g d S).bind fun us S1 => if us.length ≤ sizeLine then .ok us S1 else .bad
theorem sl_lst {es : List Expr} {g : FA} (h : SimA X Wx es g) : SimL X Wx (.List es pos) (aLst g) := by
  obtain ⟨t, p, h⟩ := h.out
  refine SimL.mk (pe_lst p) (fun w d σ Q s e h0 => ?_)
  refine h w d σ _ s e ((Pst.of_bind h0).mono (fun us S1 h1 w1 vs eS st s1 rs => ?_) fun _ _ q => q)
  subst eS
  split at h1
  · rename_i hl
    exact ⟨by rw [← rs.length]; exact hl, fun p hp => h1 w1 p vs rfl st s1 rs hp⟩
  · exact h1.elim
/-- a new list, read alone from now on; one of the store -/
def fVal (g : FA) : FE := fun d S => (g d S).bind fun us S1 => .ok (.lst us) S1
def fLoc (g : FA) : FE := fun d S => (g d S).bind fun us S1 => .ok (.loc S1.length) (S1 ++ [.lst us])
theorem SimL.val {e : Expr} {g : FA} (h : SimL X Wx e g) : SimE X Wx e (fVal g) := by
  obtain ⟨t, p, h⟩ := h.out
  refine SimE.mk (p) (fun w d σ Q s e h0 => ?_)
  refine h w d σ _ s e ((Pst.of_bind h0).mono (fun us S1 h1 w1 p xs eS st s1 rs hp => ?_) fun _ _ q => q)
  subst eS
  have st1 := Stp.new s1 (o := .lst xs) hp
  exact h1 (w1.new p (.lst xs)) (.ref p) rfl (st.trans st1) (s1.new hp) (.lst upd_same (fun q => s1.tracked q hp) (rs.ext st1.x s1))
theorem SimL.loc {e : Expr} {g : FA} (h : SimL X Wx e g) : SimE X Wx e (fLoc g) := by
  obtain ⟨t, p, h⟩ := h.out
  refine SimE.mk (p) (fun w d σ Q s e h0 => ?_)
  refine h w d σ _ s e ((Pst.of_bind h0).mono (fun us S1 h1 w1 p xs eS st s1 rs hp => ?_) fun _ _ q => q)
  subst eS
  have st1 := Stp.push s1 (o := .lst xs) (b := .lst us) hp
  refine h1 (w1.push p (.lst xs) (.lst us)) (.ref p) rfl (st.trans st1) (s1.push hp ⟨xs, upd_same, rs.ext st1.x s1⟩) (.loc ?_)
  show (w1.m ++ [p])[w1.S.length]? = some p
  rw [← s1.len]
  simp
/-- left to be read alone -/
def fIce (f : FE) : FE := fun d S => (f d S).bind fun u S1 => match u with
  | .loc n => match S1[n]? with
    | some (.lst us) => .ok (.lst us) (S1.set n .dead)
    | some (.dic ks us) => .ok (.dic ks us) (S1.set n .dead)
    | _ => .bad
  | _ => .bad
theorem se_ice {e : Expr} {f : FE} (h : SimE X Wx e f) : SimE X Wx e (fIce f) := by
  obtain ⟨t, p, h⟩ := h.out
  refine SimE.mk (p) (fun w d σ Q s e h0 => ?_)
  refine h w d σ _ s e ((Pst.of_bind h0).mono (fun u S1 h1 w1 v1 eS st s1 r1 => ?_) fun _ _ q => q)
  subst eS
  cases r1 with
  | @loc n a hm =>
    dsimp only at h1
    split at h1
    · rename_i us hS
      obtain ⟨xs, q, rs⟩ := s1.obj n a _ hm hS
      exact h1 (w1.ice n) (.ref a) rfl (st.trans (Stp.ice w1 n)) (s1.ice n) (.lst q (live_ice s1 hm hS (by intro z; cases z)) (rs.ext (Ext.ice w1 n) s1))
    · rename_i ks us hS
      obtain ⟨xs, q, l, rs⟩ := s1.obj n a _ hm hS
      exact h1 (w1.ice n) (.ref a) rfl (st.trans (Stp.ice w1 n)) (s1.ice n) (.dic q (live_ice s1 hm hS (by intro z; cases z)) l (rs.ext (Ext.ice w1 n) s1))
    · exact h1.elim
  | _ => exact h1.elim
end
end DL

set_option Elab.async false
set_option linter.all false
set_option maxRecDepth 100000
namespace DL
open PySem PySem.Spec L2

/-! ### reading lists and dicts -/
def listM (u : U) (S : Sto) : Option (List U) := match u with
  | .lst us => some us
  | .loc n => match S[n]? with
    | some (.lst us) => some us
    | _ => none
  | _ => none
def listOf (u : U) (S : Sto) : Option (List U) := match u with
  | .frz us => some us
  | u => listM u S
def dictOf (u : U) (S : Sto) : Option (List Key × List U) := match u with
  | .dic ks us => some (ks, us)
  | .loc n => match S[n]? with
    | some (.dic ks us) => some (ks, us)
    | _ => none
  | _ => none
def keyU : U → Option Key
  | .int i => some (.inl i)
  | .str x => some (.inr x)
  | _ => none
def valU : List Key → List U → Key → Option U
  | k :: ks, u :: us, j => if k = j then some u else valU ks us j
  | _, _, _ => none
section
variable {K : KM} {w : Wd}
theorem listM_ok {u : U} {v : V} {us : List U} (s : SR K w) (r : VR K w u v) (h : listM u w.S = some us) : ∃ a xs, v = .ref a ∧ w.H a = some (.lst xs) ∧ VRs K w us xs := by
  cases r with
  | lst hq n rs => cases h; exact ⟨_, _, rfl, hq, rs⟩
  | @loc n a hm =>
    unfold listM at h
    dsimp only at h
    split at h
    · rename_i us' hS
      cases h
      obtain ⟨xs, q, rs⟩ := s.obj n a _ hm hS
      exact ⟨a, xs, rfl, q, rs⟩
    · cases h
  | _ => cases h
theorem listOf_ok {u : U} {v : V} {us : List U} (s : SR K w) (r : VR K w u v) (h : listOf u w.S = some us) : ∃ a xs, v = .ref a ∧ SqL K w.H a xs ∧ VRs K w us xs := by
  cases r with
  | frz hq rs => cases h; exact ⟨_, _, rfl, hq.sq, rs⟩
  | lst hq n rs => cases h; exact ⟨_, _, rfl, SqL.of hq, rs⟩
  | loc hm =>
    obtain ⟨a, xs, e, q, rs⟩ := listM_ok s (.loc hm) h
    exact ⟨a, xs, e, SqL.of q, rs⟩
  | _ => cases h
theorem dictOf_ok {u : U} {v : V} {ks : List Key} {us : List U} (s : SR K w) (r : VR K w u v) (h : dictOf u w.S = some (ks, us)) : ∃ a xs, v = .ref a ∧ w.H a = some (.dK (ks.zip xs)) ∧ ks.length = us.length ∧ VRs K w us xs := by
  cases r with
  | dic hq n l rs => cases h; exact ⟨_, _, rfl, hq, l, rs⟩
  | @loc n a hm =>
    unfold dictOf at h
    dsimp only at h
    split at h
    · rename_i ks' us' hS
      cases h
      obtain ⟨xs, q, l, rs⟩ := s.obj n a _ hm hS
      exact ⟨a, xs, rfl, q, l, rs⟩
    · cases h
  | _ => cases h
theorem keyU_ok {u : U} {v : V} {k : Key} (r : VR K w u v) (h : keyU u = some k) : v = kV k := by
  cases r with
  | int i => cases h; rfl
  | str x => cases h; rfl
  | _ => cases h
theorem valU_ok : ∀ {ks : List Key} {us : List U} {xs : List V} (k : Key), VRs K w us xs → (valU ks us k = none → valV (ks.zip xs) k = none) ∧ ∀ u, valU ks us k = some u → ∃ v, valV (ks.zip xs) k = some v ∧ VR K w u v
  | [], us, xs, k, r => ⟨fun _ => by rw [List.zip_nil_left]; exact valV_nil, fun u h => by unfold valU at h; cases h⟩
  | k' :: ks, _, _, k, .nil => ⟨fun _ => by rw [List.zip_nil_right]; exact valV_nil, fun u h => by unfold valU at h; cases h⟩
  | k' :: ks, u :: us, x :: xs, k, .cons r rs => by
    rw [List.zip_cons_cons]
    by_cases e : k' = k
    · refine ⟨fun h => ?_, fun y h => ?_⟩
      · unfold valU at h; rw [if_pos e] at h; cases h
      · unfold valU at h; rw [if_pos e] at h; cases h; exact ⟨x, valV_pos e, r⟩
    · rw [valV_neg e]
      unfold valU
      rw [if_neg e]
      exact valU_ok k rs
theorem valU_rel {ks : List Key} {us : List U} {xs : List V} (k : Key) (r : VRs K w us xs) : (valU ks us k).isSome = (valV (ks.zip xs) k).isSome := by
  obtain ⟨h1, h2⟩ := valU_ok (ks := ks) k r
  cases h : valU ks us k with
  | none => rw [h1 h]; rfl
  | some u => obtain ⟨v, e, _⟩ := h2 u h; rw [e]; rfl
end

/-! ### data, for equality -/
mutual
def toD : U → Option PyData
  | .non => some .none
  | .bl b => some (.bool b)
  | .int i => some (.int i)
  | .str x => some (.str x)
  | .tup us => (toDs us).map .tuple
  | .lst us => (toDs us).map .list
  | .frz us => (toDs us).map .list
  | .dic _ _ => none
  | .loc _ => none
  | .ty _ => none
  | .exc _ _ _ => none
  | .cl _ => none
def toDs : List U → Option (List PyData)
  | [] => some []
  | u :: us => match toD u, toDs us with
    | some d, some ds => some (d :: ds)
    | _, _ => none
end
section
variable {K : KM} {w : Wd}
mutual
theorem toD_ok : ∀ {u : U} {v : V} {d : PyData}, VR K w u v → toD u = some d → Dp K w.H v d
  | _, _, _, .non, h => by unfold toD at h; cases h; exact .non
  | _, _, _, .bl b, h => by unfold toD at h; cases h; exact .bl b
  | _, _, _, .int i, h => by unfold toD at h; cases h; exact .int i
  | _, _, _, .str x, h => by unfold toD at h; cases h; exact .str x
  | _, _, _, .tup (us := us) hq rs, h => by
    unfold toD at h
    cases e : toDs us with
    | none => rw [e] at h; cases h
    | some ds => rw [e] at h; cases h; exact .tup hq.sq (toDs_ok rs e)
  | _, _, _, .lst (us := us) hq _ rs, h => by
    unfold toD at h
    cases e : toDs us with
    | none => rw [e] at h; cases h
    | some ds => rw [e] at h; cases h; exact .lst (SqL.of hq) (toDs_ok rs e)
  | _, _, _, .frz (us := us) hq rs, h => by
    unfold toD at h
    cases e : toDs us with
    | none => rw [e] at h; cases h
    | some ds => rw [e] at h; cases h; exact .lst hq.sq (toDs_ok rs e)
  | _, _, _, .dic _ _ _ _, h => by unfold toD at h; cases h
  | _, _, _, .loc _, h => by unfold toD at h; cases h
  | _, _, _, .ty _, h => by unfold toD at h; cases h
  | _, _, _, .exc _ _ _ _, h => by unfold toD at h; cases h
  | _, _, _, .cl _, h => by unfold toD at h; cases h
theorem toDs_ok : ∀ {us : List U} {vs : List V} {ds : List PyData}, VRs K w us vs → toDs us = some ds → DpAll K w.H vs ds
  | _, _, _, .nil, h => by unfold toDs at h; cases h; exact .nil
  | _, _, _, .cons (u := u) (us := us) r rs, h => by
    unfold toDs at h
    split at h
    · rename_i d ds e1 e2
      cases h
      exact .cons (toD_ok r e1) (toDs_ok rs e2)
    · cases h
end
/-- also a list of the store -/
def toDS (u : U) (S : Sto) : Option PyData := match u with
  | .loc n => match S[n]? with
    | some (.lst us) => (toDs us).map .list
    | _ => none
  | u => toD u
theorem toDS_ok {u : U} {v : V} {d : PyData} (s : SR K w) (r : VR K w u v) (h : toDS u w.S = some d) : Dp K w.H v d := by
  by_cases hl : ∃ n, u = .loc n
  · obtain ⟨n, rfl⟩ := hl
    cases r with
    | @loc _ a hm =>
      unfold toDS at h
      dsimp only at h
      split at h
      · rename_i us hS
        obtain ⟨xs, q, rs⟩ := s.obj n a _ hm hS
        cases e : toDs us with
        | none => rw [e] at h; cases h
        | some ds => rw [e] at h; cases h; exact .lst (SqL.of q) (toDs_ok rs e)
      · cases h
  · refine toD_ok r ?_
    unfold toDS at h
    split at h
    · exact absurd ⟨_, rfl⟩ hl
    · exact h
end

/-! ### operators -/
abbrev bI (b : Bool) : Int := if b then 1 else 0
def okI (i : Int) (S : Sto) : R U := .ok (.int i) S
def okB (b : Bool) (S : Sto) : R U := .ok (.bl b) S
def guard {α : Type} (c : Bool) (r : R α) : R α := if c then r else .bad
def addU (x y : U) (S : Sto) : R U := match x, y with
  | .int i, .int j => .ok (.int (i + j)) S
  | .int i, .bl b => .ok (.int (i + bI b)) S
  | .str a, .str b => guard (decide (a.length + b.length ≤ sizeLine)) (.ok (.str (a ++ b)) S)
  | .tup a, .tup b => guard (decide (a.length + b.length ≤ sizeLine)) (.ok (.tup (a ++ b)) S)
  | x, y => match listM x S, listM y S with
    | some a, some b => guard (decide (a.length + b.length ≤ sizeLine)) (.ok (.lst (a ++ b)) S)
    | _, _ => .bad
def subU (x y : U) (S : Sto) : R U := match x, y with
  | .int i, .int j => .ok (.int (i - j)) S
  | _, _ => .bad
def mulOk (i j : Int) : Bool := decide ((Builtin.Int.intBits i : Int) + (Builtin.Int.intBits j : Int) ≤ 134217728)
def mulU (x y : U) (S : Sto) : R U := match x, y with
  | .int i, .int j => guard (mulOk i j) (.ok (.int (i * j)) S)
  | x, .int k => match listM x S with
    | some a => guard (decide (-(2 ^ 63) ≤ k) && decide (k < 2 ^ 63) && decide (a.length * k.toNat ≤ sizeLine)) (.ok (.lst (List.replicate k.toNat a).flatten) S)
    | none => .bad
  | _, _ => .bad
def fdivU (x y : U) (S : Sto) : R U := match x, y with
  | .int i, .int j => guard (decide (0 < j) && decide (j.natAbs.log2 < 9000)) (.ok (.int (i / j)) S)
  | _, _ => .bad
def modU (x y : U) (S : Sto) : R U := match x, y with
  | .int i, .int j => guard (decide (0 < j)) (.ok (.int (i % j)) S)
  | _, _ => .bad
def powU (x y : U) (S : Sto) : R U := match x, y with
  | .int i, .int j => guard (decide (0 ≤ j) && decide (j ≤ 1000000) && decide (i.natAbs < 2 ^ 64)) (.ok (.int (i ^ j.toNat)) S)
  | _, _ => .bad
section
variable {X : Cx}
theorem guard_post {α : Type} {c : Bool} {r : R α} {P : α → Sto → Prop} {E : Exc → Sto → Prop} (h : Pst (guard c r) P E) : c = true ∧ Pst r P E := by
  unfold guard at h
  cases c with
  | true => exact ⟨rfl, h⟩
  | false => exact h.elim
theorem noX_guard {c : Bool} {r : R U} (h : noX r) : noX (guard c r) := by
  unfold guard; cases c with
  | true => exact h
  | false => trivial
theorem noX_add (x y : U) (S : Sto) : noX (addU x y S) := by
  unfold addU
  split <;> first | trivial | exact noX_guard trivial | (split <;> first | trivial | exact noX_guard trivial)
theorem noX_sub (x y : U) (S : Sto) : noX (subU x y S) := by
  unfold subU; split <;> trivial
theorem noX_mul (x y : U) (S : Sto) : noX (mulU x y S) := by
  unfold mulU
  split <;> first | trivial | exact noX_guard trivial | (split <;> first | trivial | exact noX_guard trivial)
theorem noX_fdiv (x y : U) (S : Sto) : noX (fdivU x y S) := by
  unfold fdivU; split <;> first | trivial | exact noX_guard trivial
theorem noX_mod (x y : U) (S : Sto) : noX (modU x y S) := by
  unfold modU; split <;> first | trivial | exact noX_guard trivial
theorem noX_pow (x y : U) (S : Sto) : noX (powU x y S) := by
  unfold powU; split <;> first | trivial | exact noX_guard trivial
theorem os_add : OpSim X (binaryOp .Add) addU := by
  refine ⟨_, op_add.or (op_add_ib.or (op_add_str.or (op_cat.or op_catA))), fun w x y v v' Q s rx ry h => ?_⟩
  have lists : ∀ {x y : U} {v v' : V}, VR (KMof X) w x v → VR (KMof X) w y v' → Pst (match listM x w.S, listM y w.S with
    | some a, some b => guard (decide (a.length + b.length ≤ sizeLine)) (.ok (.lst (a ++ b)) w.S)
    | _, _ => .bad) (OkE X w Q) (fun _ _ => False) → rCat v v' w.H Q := fun {x y v v'} rx ry h => by
    split at h
    · rename_i a b h1 h2
      obtain ⟨hl, h⟩ := guard_post h
      obtain ⟨p, xs, rfl, q, rs⟩ := listM_ok s rx h1
      obtain ⟨p', xs', rfl, q', rs'⟩ := listM_ok s ry h2
      refine ⟨p, p', xs, xs', rfl, rfl, q, q', by rw [← rs.length, ← rs'.length]; exact of_decide_eq_true hl, fun z hz => ?_⟩
      have st := Stp.new s (o := .lst (xs ++ xs')) hz
      exact h (w.new z _) (.ref z) rfl st (s.new hz) (.lst upd_same (fun q => s.tracked q hz) ((rs.append rs').ext st.x s))
    · exact h.elim
  unfold addU at h
  split at h
  · cases rx; cases ry; exact .inl ⟨_, _, rfl, rfl, OkE.here h s (.int _)⟩
  · cases rx; cases ry; exact .inr (.inl ⟨_, _, rfl, rfl, OkE.here h s (.int _)⟩)
  · obtain ⟨hl, h⟩ := guard_post h
    cases rx; cases ry; exact .inr (.inr (.inl ⟨_, _, rfl, rfl, of_decide_eq_true hl, OkE.here h s (.str _)⟩))
  · rename_i a b
    obtain ⟨hl, h⟩ := guard_post h
    cases rx with
    | @tup p xs _ hq rs =>
      cases ry with
      | @tup p' xs' _ hq' rs' =>
        refine .inr (.inr (.inr (.inr ⟨p, p', xs, xs', rfl, rfl, hq.sq, hq'.sq, by rw [← rs.length, ← rs'.length]; exact of_decide_eq_true hl, fun e => ?_, fun _ e => ?_, fun _ _ z hz => ?_⟩)))
        · subst e
          cases rs
          exact OkE.here h s (.tup hq' rs')
        · subst e
          cases rs'
          rw [List.append_nil] at h
          exact OkE.here h s (.tup hq rs)
        · have st := Stp.new s (o := .tup (xs ++ xs')) hz
          exact h (w.new z _) (.ref z) rfl st (s.new hz) (.tup (TqT.of upd_same) ((rs.append rs').ext st.x s))
  · exact .inr (.inr (.inr (.inl (lists rx ry h))))
theorem os_sub : OpSim X (binaryOp .Sub) subU := by
  refine ⟨_, op_sub, fun w x y v v' Q s rx ry h => ?_⟩
  unfold subU at h
  split at h
  · cases rx; cases ry; exact ⟨_, _, rfl, rfl, OkE.here h s (.int _)⟩
  · exact h.elim
theorem os_mul : OpSim X (binaryOp .Mult) mulU := by
  refine ⟨_, op_mulX.or op_rep, fun w x y v v' Q s rx ry h => ?_⟩
  unfold mulU at h
  split at h
  · obtain ⟨hl, h⟩ := guard_post h
    cases rx; cases ry; exact .inl ⟨_, _, rfl, rfl, show (_ : Int) ≤ _ from of_decide_eq_true hl, OkE.here h s (.int _)⟩
  · rename_i k _
    split at h
    · rename_i a h1
      obtain ⟨hl, h⟩ := guard_post h
      simp only [Bool.and_eq_true, decide_eq_true_eq] at hl
      obtain ⟨⟨l1, l2⟩, l3⟩ := hl
      obtain ⟨p, xs, rfl, q, rs⟩ := listM_ok s rx h1
      cases ry
      refine .inr ⟨p, k, xs, rfl, rfl, q, l1, l2, by rw [← rs.length]; exact l3, fun z hz => ?_⟩
      have st := Stp.new s (o := .lst (List.replicate k.toNat xs).flatten) hz
      have rep : ∀ n : Nat, VRs (KMof X) w (List.replicate n a).flatten (List.replicate n xs).flatten := fun n => by
        induction n with
        | zero => exact .nil
        | succ n ih => rw [List.replicate_succ, List.replicate_succ, List.flatten_cons, List.flatten_cons]; exact rs.append ih
      exact h (w.new z _) (.ref z) rfl st (s.new hz) (.lst upd_same (fun q => s.tracked q hz) ((rep k.toNat).ext st.x s))
    · exact h.elim
  · exact h.elim
theorem os_fdiv : OpSim X (binaryOp .FloorDiv) fdivU := by
  refine ⟨_, op_fdivW, fun w x y v v' Q s rx ry h => ?_⟩
  unfold fdivU at h
  split at h
  · obtain ⟨hl, h⟩ := guard_post h
    simp only [Bool.and_eq_true, decide_eq_true_eq] at hl
    cases rx; cases ry; exact ⟨_, _, rfl, rfl, hl, OkE.here h s (.int _)⟩
  · exact h.elim
theorem os_mod : OpSim X (binaryOp .Mod) modU := by
  refine ⟨_, op_mod, fun w x y v v' Q s rx ry h => ?_⟩
  unfold modU at h
  split at h
  · obtain ⟨hl, h⟩ := guard_post h
    cases rx; cases ry; exact ⟨_, _, rfl, rfl, of_decide_eq_true hl, OkE.here h s (.int _)⟩
  · exact h.elim
theorem os_pow : OpSim X (binaryOp .Pow) powU := by
  refine ⟨_, op_pow, fun w x y v v' Q s rx ry h => ?_⟩
  unfold powU at h
  split at h
  · obtain ⟨hl, h⟩ := guard_post h
    simp only [Bool.and_eq_true, decide_eq_true_eq] at hl
    cases rx; cases ry; exact ⟨_, _, rfl, rfl, ⟨hl.1.1, hl.1.2, hl.2⟩, OkE.here h s (.int _)⟩
  · exact h.elim
def negU (x : U) (S : Sto) : R U := match x with
  | .int i => .ok (.int (-i)) S
  | _ => .bad
theorem us_neg : UnSim X (unaryOp .USub) negU := by
  refine ⟨_, un_neg, fun x S => by unfold negU; split <;> trivial, fun w x v Q s rx h => ?_⟩
  unfold negU at h
  split at h
  · cases rx; exact ⟨_, rfl, OkE.here h s (.int _)⟩
  · exact h.elim

/-! ### comparisons -/
def flatU : U → Bool
  | .non => true
  | .bl _ => true
  | .int _ => true
  | .str _ => true
  | _ => false
def eqF : U → U → Bool
  | .non, .non => true
  | .bl a, .bl b => a == b
  | .bl a, .int j => bI a == j
  | .int i, .bl b => i == bI b
  | .int i, .int j => i == j
  | .str x, .str y => x == y
  | _, _ => false
/-- the scalars that == tells apart by what they are -/
def scalU : U → U → Bool
  | .bl _, .int _ => false
  | .int _, .bl _ => false
  | x, y => flatU x && flatU y
theorem scal_ok {w : Wd} {x y : U} {v v' : V} (r : VR (KMof X) w x v) (r' : VR (KMof X) w y v') (h : scalU x y = true) : scal v v' = true ∧ decide (v = v') = eqF x y := by
  cases r <;> cases r' <;> first
    | (exfalso; exact Bool.noConfusion h)
    | exact ⟨rfl, rfl⟩
    | exact ⟨rfl, decide_eq_false fun z => nomatch z⟩
    | exact ⟨rfl, decide_eq_true rfl⟩
    | exact ⟨rfl, dec_int⟩
    | exact ⟨rfl, dec_bl⟩
    | exact ⟨rfl, dec_str⟩
def eqOk (x y : U) (S : Sto) (g : Bool → Bool) : R U := if scalU x y then .ok (.bl (g (eqF x y))) S else match toDS x S, toDS y S with
  | some a, some b => guard (SeqAt.shaped a && SeqAt.shaped b) (.ok (.bl (g (PyData.eqv a b))) S)
  | _, _ => .bad
def eqU (x y : U) (S : Sto) : R U := eqOk x y S id
def neU (x y : U) (S : Sto) : R U := eqOk x y S not
theorem noX_eqOk (x y : U) (S : Sto) (g : Bool → Bool) : noX (eqOk x y S g) := by
  unfold eqOk
  split
  · trivial
  · split <;> first | trivial | exact noX_guard trivial
theorem noX_eq (x y : U) (S : Sto) : noX (eqU x y S) := noX_eqOk x y S id
theorem noX_ne (x y : U) (S : Sto) : noX (neU x y S) := noX_eqOk x y S not
theorem os_eq (hu : X.A.units + 64 < cLine) : OpSim X (compareOp .Eq) eqU := by
  refine ⟨_, op_eq.or (op_eqD hu), fun w x y v v' Q s rx ry h => ?_⟩
  unfold eqU eqOk at h
  split at h
  · rename_i hs
    obtain ⟨h1, h2⟩ := scal_ok rx ry hs
    exact .inl ⟨h1, by rw [h2]; exact OkE.here h s (.bl _)⟩
  · split at h
    · rename_i a b h1 h2
      obtain ⟨hl, h⟩ := guard_post h
      simp only [Bool.and_eq_true] at hl
      exact .inr ⟨a, b, toDS_ok s rx h1, toDS_ok s ry h2, hl.1, hl.2, OkE.here h s (.bl _)⟩
    · exact h.elim
theorem os_ne (hu : X.A.units + 64 < cLine) : OpSim X (compareOp .NotEq) neU := by
  refine ⟨_, op_ne.or (op_neD hu), fun w x y v v' Q s rx ry h => ?_⟩
  unfold neU eqOk at h
  split at h
  · rename_i hs
    obtain ⟨h1, h2⟩ := scal_ok rx ry hs
    exact .inl ⟨h1, by rw [h2]; exact OkE.here h s (.bl _)⟩
  · split at h
    · rename_i a b h1 h2
      obtain ⟨hl, h⟩ := guard_post h
      simp only [Bool.and_eq_true] at hl
      exact .inr ⟨a, b, toDS_ok s rx h1, toDS_ok s ry h2, hl.1, hl.2, OkE.here h s (.bl _)⟩
    · exact h.elim
def ltU (x y : U) (S : Sto) : R U := match x, y with
  | .int i, .int j => .ok (.bl (decide (i < j))) S
  | .str a, .str b => .ok (.bl (decide (a.cps.toList < b.cps.toList))) S
  | _, _ => .bad
def leU (x y : U) (S : Sto) : R U := match x, y with
  | .int i, .int j => .ok (.bl (decide (i ≤ j))) S
  | _, _ => .bad
def gtU (x y : U) (S : Sto) : R U := match x, y with
  | .int i, .int j => .ok (.bl (decide (j < i))) S
  | _, _ => .bad
def geU (x y : U) (S : Sto) : R U := match x, y with
  | .int i, .int j => .ok (.bl (decide (j ≤ i))) S
  | _, _ => .bad
theorem noX_lt (x y : U) (S : Sto) : noX (ltU x y S) := by unfold ltU; split <;> trivial
theorem noX_le (x y : U) (S : Sto) : noX (leU x y S) := by unfold leU; split <;> trivial
theorem noX_gt (x y : U) (S : Sto) : noX (gtU x y S) := by unfold gtU; split <;> trivial
theorem noX_ge (x y : U) (S : Sto) : noX (geU x y S) := by unfold geU; split <;> trivial
theorem os_lt : OpSim X (compareOp .Lt) ltU := by
  refine ⟨_, op_lt.or op_lt_str, fun w x y v v' Q s rx ry h => ?_⟩
  unfold ltU at h
  split at h
  · cases rx; cases ry; exact .inl ⟨_, _, rfl, rfl, OkE.here h s (.bl _)⟩
  · cases rx; cases ry; exact .inr ⟨_, _, rfl, rfl, OkE.here h s (.bl _)⟩
  · exact h.elim
theorem os_le : OpSim X (compareOp .LtE) leU := by
  refine ⟨_, op_le, fun w x y v v' Q s rx ry h => ?_⟩
  unfold leU at h
  split at h
  · cases rx; cases ry; exact ⟨_, _, rfl, rfl, OkE.here h s (.bl _)⟩
  · exact h.elim
theorem os_gt : OpSim X (compareOp .Gt) gtU := by
  refine ⟨_, op_gt, fun w x y v v' Q s rx ry h => ?_⟩
  unfold gtU at h
  split at h
  · cases rx; cases ry; exact ⟨_, _, rfl, rfl, OkE.here h s (.bl _)⟩
  · exact h.elim
theorem os_ge : OpSim X (compareOp .GtE) geU := by
  refine ⟨_, op_ge, fun w x y v v' Q s rx ry h => ?_⟩
  unfold geU at h
  split at h
  · cases rx; cases ry; exact ⟨_, _, rfl, rfl, OkE.here h s (.bl _)⟩
  · exact h.elim
def isNon : U → Bool
  | .non => true
  | _ => false
def isU (x y : U) (S : Sto) : R U := match y with
  | .non => .ok (.bl (isNon x)) S
  | _ => .bad
def isnU (x y : U) (S : Sto) : R U := match y with
  | .non => .ok (.bl (!isNon x)) S
  | _ => .bad
theorem noX_is (x y : U) (S : Sto) : noX (isU x y S) := by unfold isU; split <;> trivial
theorem noX_isn (x y : U) (S : Sto) : noX (isnU x y S) := by unfold isnU; split <;> trivial
theorem isNon_ok {w : Wd} {x : U} {v : V} (r : VR (KMof X) w x v) : decide (v = .non) = isNon x := by
  cases r <;> first | rfl | exact decide_eq_false (fun z => nomatch z)
theorem os_is : OpSim X (compareOp .Is) isU := by
  refine ⟨_, op_isN, fun w x y v v' Q s rx ry h => ?_⟩
  unfold isU at h
  split at h
  · cases ry; exact ⟨rfl, by rw [isNon_ok rx]; exact OkE.here h s (.bl _)⟩
  · exact h.elim
theorem os_isn : OpSim X (compareOp .IsNot) isnU := by
  refine ⟨_, op_notN, fun w x y v v' Q s rx ry h => ?_⟩
  unfold isnU at h
  split at h
  · cases ry; exact ⟨rfl, by rw [isNon_ok rx]; exact OkE.here h s (.bl _)⟩
  · exact h.elim

/-! ### in -/
def inStr (a b : Str) : Bool := match a.cps.toList with
  | [c] => decide (c ∈ b.cps.toList)
  | _ => !(Builtin.Str.occurrences b a 0 b.length 1).isEmpty
/-- a flat thing in a list of flat ones -/
def flatL (x y : U) (S : Sto) : Option Bool := match listOf y S with
  | some us => if flatU x && us.all flatU then some (us.any fun z => eqF z x) else none
  | none => none
def inB (x y : U) (S : Sto) : Option Bool := match y with
  | .str b => match x with
    | .str a => some (inStr a b)
    | _ => none
  | .tup us => if flatU x && us.all flatU then some (us.any fun z => eqF z x) else none
  | y => match dictOf y S, keyU x with
    | some (ks, us), some k => some (valU ks us k).isSome
    | _, _ => match flatL x y S with
      | some b => some b
      | none => match toDS x S, toDS y S with
        | some d, some (.list ds) => if SeqAt.shaped d && SeqAt.shaped (.list ds) then some (ds.any fun z => PyData.eqv z d) else none
        | _, _ => none
def inU (x y : U) (S : Sto) : R U := match inB x y S with
  | some b => .ok (.bl b) S
  | none => .bad
def ninU (x y : U) (S : Sto) : R U := match inB x y S with
  | some b => .ok (.bl (!b)) S
  | none => .bad
theorem noX_in (x y : U) (S : Sto) : noX (inU x y S) := by unfold inU; split <;> trivial
theorem noX_nin (x y : U) (S : Sto) : noX (ninU x y S) := by unfold ninU; split <;> trivial
end
end DL

set_option Elab.async false
set_option linter.all false
set_option maxRecDepth 100000
namespace DL
open PySem PySem.Spec L2
section
variable {X : Cx} {Wx : WX}

/-! ### in -/
theorem op_in_dict (hu : X.A.units + 1 < cLine) : OpR X (compareOp .In) (fun y x H Q => ∃ a o, x = .ref a ∧ DGet H a y o ∧ Q (.bl o.isSome) H) := by
  intro pins s σ H x y v u Q I rx ry h
  obtain ⟨a, o, rfl, g, q⟩ := h
  cases ry
  exact d_in hu I g rx fun s' I' => ⟨.bl o.isSome, H, I', rfl, q⟩
theorem op_nin_dict (hu : X.A.units + 1 < cLine) : OpR X (compareOp .NotIn) (fun y x H Q => ∃ a o, x = .ref a ∧ DGet H a y o ∧ Q (.bl (!o.isSome)) H) := by
  intro pins s σ H x y v u Q I rx ry h
  obtain ⟨a, o, rfl, g, q⟩ := h
  cases ry
  exact d_notIn hu I g rx fun s' I' => ⟨.bl (!o.isSome), H, I', rfl, q⟩
theorem flat_ok {K : KM} {w : Wd} {u : U} {v : V} (r : VR K w u v) (h : flatU u = true) : flatV v = true := by
  cases r <;> first | rfl | cases h
theorem flats_ok {K : KM} {w : Wd} : ∀ {us : List U} {vs : List V}, VRs K w us vs → us.all flatU = true → vs.all flatV = true
  | _, _, .nil, _ => rfl
  | _, _, .cons r rs, h => by
    rw [List.all_cons, Bool.and_eq_true] at h
    rw [List.all_cons, flat_ok r h.1, flats_ok rs h.2]; rfl
theorem eqF_ok {K : KM} {w : Wd} {x y : U} {v v' : V} (r : VR K w x v) (r' : VR K w y v') (h : flatU x = true) (h' : flatU y = true) : eqV v v' = eqF x y := by
  cases r <;> first | (exfalso; exact Bool.noConfusion h) | (cases r' <;> first | (exfalso; exact Bool.noConfusion h') | rfl)
theorem anyF_ok {K : KM} {w : Wd} {y : U} {v' : V} (r' : VR K w y v') (h' : flatU y = true) : ∀ {us : List U} {vs : List V}, VRs K w us vs → us.all flatU = true → inV v' vs = us.any fun z => eqF z y
  | _, _, .nil, _ => rfl
  | _, _, .cons r rs, h => by
    rw [List.all_cons, Bool.and_eq_true] at h
    unfold inV
    rw [List.any_cons, List.any_cons, eqF_ok r r' h.1 h', ← anyF_ok r' h' rs h.2]
    rfl
theorem inStr_one {a b : Str} {c : Nat} (h : a.cps.toList = [c]) : a = ⟨#[c]⟩ ∧ inStr a b = decide (c ∈ b.cps.toList) := by
  refine ⟨?_, ?_⟩
  · cases a with
    | mk l => cases l with
      | mk l => cases h; rfl
  · unfold inStr; rw [h]
theorem inB_cases {w : Wd} {x y : U} {v v' : V} {b : Bool} (s : SR (KMof X) w) (rx : VR (KMof X) w x v) (ry : VR (KMof X) w y v') (h : inB x y w.S = some b) :
    (∃ c z, v = .str ⟨#[c]⟩ ∧ v' = .str z ∧ b = decide (c ∈ z.cps.toList)) ∨ (∃ i j, v = .str i ∧ v' = .str j ∧ b = !(Builtin.Str.occurrences j i 0 j.length 1).isEmpty) ∨
    (∃ p xs, v' = .ref p ∧ (SqL X.K w.H p xs ∨ SqT X.K w.H p xs) ∧ flatV v = true ∧ xs.all flatV = true ∧ b = inV v xs) ∨
    (∃ d ds, Dp X.K w.H v d ∧ Dp X.K w.H v' (.list ds) ∧ SeqAt.shaped d = true ∧ SeqAt.shaped (.list ds) = true ∧ b = ds.any fun z => PyData.eqv z d) ∨
    (∃ a o, v' = .ref a ∧ DGet w.H a v o ∧ b = o.isSome) := by
  unfold inB at h
  split at h
  · rename_i z
    split at h
    · rename_i i
      cases h
      cases rx; cases ry
      unfold inStr
      split
      · rename_i c hc
        exact .inl ⟨c, z, by rw [(inStr_one (b := z) hc).1], rfl, rfl⟩
      · exact .inr (.inl ⟨i, z, rfl, rfl, rfl⟩)
    · cases h
  · rename_i us
    split at h
    · rename_i hf
      cases h
      rw [Bool.and_eq_true] at hf
      cases ry with
      | tup hq rs => exact .inr (.inr (.inl ⟨_, _, rfl, .inr hq.sq, flat_ok rx hf.1, flats_ok rs hf.2, (anyF_ok rx hf.1 rs hf.2).symm⟩))
    · cases h
  · split at h
    · rename_i ks us k h1 h2
      cases h
      obtain ⟨a, xs, rfl, q, l, rs⟩ := dictOf_ok s ry h1
      rw [keyU_ok rx h2]
      exact .inr (.inr (.inr (.inr ⟨a, _, rfl, DGet.k q, valU_rel k rs⟩)))
    · split at h
      · rename_i b0 hb0
        cases h
        unfold flatL at hb0
        split at hb0
        · rename_i us hl
          split at hb0
          · rename_i hf
            cases hb0
            rw [Bool.and_eq_true] at hf
            obtain ⟨a, xs, rfl, hq, rs⟩ := listOf_ok s ry hl
            exact .inr (.inr (.inl ⟨_, _, rfl, .inl hq, flat_ok rx hf.1, flats_ok rs hf.2, (anyF_ok rx hf.1 rs hf.2).symm⟩))
          · cases hb0
        · cases hb0
      · split at h
        · rename_i d ds h1 h2
          split at h
          · rename_i hs
            cases h
            rw [Bool.and_eq_true] at hs
            exact .inr (.inr (.inr (.inl ⟨d, ds, toDS_ok s rx h1, toDS_ok s ry h2, hs.1, hs.2, rfl⟩)))
          · cases h
        · cases h
theorem os_in (hu : X.A.units + 66 < cLine) : OpSim X (compareOp .In) inU := by
  refine ⟨_, op_in_sign.or (op_in_str.or (op_in_seq.or ((op_inD (by omega)).or (op_in_dict (by omega))))), fun w x y v v' Q s rx ry h => ?_⟩
  unfold inU at h
  split at h
  · rename_i b hb
    have q := OkE.here h s (.bl b)
    rcases inB_cases s rx ry hb with ⟨c, z, rfl, rfl, e⟩ | ⟨i, j, rfl, rfl, e⟩ | ⟨p, xs, rfl, h1, h2, h3, e⟩ | ⟨d, ds, h1, h2, h3, h4, e⟩ | ⟨a, o, rfl, g, e⟩
    · exact .inl ⟨c, z, rfl, rfl, e ▸ q⟩
    · exact .inr (.inl ⟨i, j, rfl, rfl, e ▸ q⟩)
    · exact .inr (.inr (.inl ⟨p, xs, rfl, h1, h2, h3, e ▸ q⟩))
    · exact .inr (.inr (.inr (.inl ⟨d, ds, h1, h2, h3, h4, e ▸ q⟩)))
    · exact .inr (.inr (.inr (.inr ⟨a, o, rfl, g, e ▸ q⟩)))
  · exact h.elim
theorem os_nin (hu : X.A.units + 66 < cLine) : OpSim X (compareOp .NotIn) ninU := by
  refine ⟨_, op_notIn_sign.or (op_notin_str.or (op_notIn_seq.or ((op_notInD (by omega)).or (op_nin_dict (by omega))))), fun w x y v v' Q s rx ry h => ?_⟩
  unfold ninU at h
  split at h
  · rename_i b hb
    have q := OkE.here h s (.bl (!b))
    rcases inB_cases s rx ry hb with ⟨c, z, rfl, rfl, e⟩ | ⟨i, j, rfl, rfl, e⟩ | ⟨p, xs, rfl, h1, h2, h3, e⟩ | ⟨d, ds, h1, h2, h3, h4, e⟩ | ⟨a, o, rfl, g, e⟩
    · exact .inl ⟨c, z, rfl, rfl, e ▸ q⟩
    · exact .inr (.inl ⟨i, j, rfl, rfl, e ▸ q⟩)
    · exact .inr (.inr (.inl ⟨p, xs, rfl, h1, h2, h3, e ▸ q⟩))
    · exact .inr (.inr (.inr (.inl ⟨d, ds, h1, h2, h3, h4, e ▸ q⟩)))
    · exact .inr (.inr (.inr (.inr ⟨a, o, rfl, g, e ▸ q⟩)))
  · exact h.elim

/-! ### x[i] -/
def ixB (x y : U) (S : Sto) : Option U := match x, y with
  | .str z, .int i => if z.length ≤ sizeLine then (atI z.cps.toList i).map fun c => .str ⟨#[c]⟩ else none
  | .tup us, .int i => atI us i
  | x, y => match listOf x S with
    | some us => match y with
      | .int i => atI us i
      | _ => none
    | none => match dictOf x S, keyU y with
      | some (ks, us), some k => valU ks us k
      | _, _ => none
def oU (o : Option U) (S : Sto) : R U := match o with
  | some u => .ok u S
  | none => .bad
def ixU (x y : U) (S : Sto) : R U := oU (ixB x y S) S
theorem atI_rel {K : KM} {w : Wd} {us : List U} {xs : List V} {i : Int} {u : U} (r : VRs K w us xs) (h : atI us i = some u) : ∃ v, atI xs i = some v ∧ VR K w u v := by
  unfold atI at h ⊢
  rw [← r.length]
  cases q : ixN us.length i with
  | none => rw [q] at h; cases h
  | some j =>
    rw [q] at h
    exact r.get h
theorem ix_dict (hu : X.A.units + 1 < cLine) : IxR X (fun x y H Q => ∃ a v, x = .ref a ∧ DGet H a y (some v) ∧ Q v H) := by
  intro value slice pins s σ H x y v u Q I rx ry h hs
  obtain ⟨a, z, rfl, g, q⟩ := h
  cases rx
  exact PyProof.Rows.tail_any (dict_typeIs I g) slot_dict_getitem.lookup (d_getItem hu I g ry fun w' s' I' r' => ⟨z, H, I', r', q⟩) hs
theorem se_ix {a b : Expr} {fa fb : FE} {pos : Pos} (hu : X.A.units + 1 < cLine) (ha : SimE X Wx a fa) (hb : SimE X Wx b fb) (hs : PlainIx b := by intro _ _; rfl) : SimE X Wx (.Subscript a b pos) (f2 ixU fa fb) := by
  obtain ⟨ta, pa, ha⟩ := ha.out
  obtain ⟨tb, pb, hb⟩ := hb.out
  refine SimE.mk (pe_ix (ix_seq.or (ix_dict hu)) pa pb hs) (fun w d σ Q s e h => two (a := a) (b := b) (r := fun x y H Q => rIx X.K x y H Q ∨ ∃ a v, x = .ref a ∧ DGet H a y (some v) ∧ Q v H) ha hb (fun w x y v v' Q s rx ry h => ?_) (fun x y S => by unfold ixU oU; split <;> trivial) w d σ Q s e h)
  unfold ixU oU at h
  split at h
  · rename_i u hu'
    unfold ixB at hu'
    split at hu'
    · split at hu'
      · rename_i z i hl
        cases rx; cases ry
        cases q : atI z.cps.toList i with
        | none => rw [q] at hu'; cases hu'
        | some c => rw [q] at hu'; cases hu'; exact .inl (.inr (.inr ⟨z, i, c, rfl, rfl, hl, q, OkE.here h s (.str _)⟩))
      · cases hu'
    · cases rx with
      | tup hq rs =>
        cases ry
        obtain ⟨v, e1, e2⟩ := atI_rel rs hu'
        exact .inl (.inr (.inl ⟨_, _, _, v, rfl, rfl, hq.sq, e1, OkE.here h s e2⟩))
    · split at hu'
      · rename_i us hl
        split at hu'
        · obtain ⟨p, xs, rfl, q, rs⟩ := listOf_ok s rx hl
          cases ry
          obtain ⟨v, e1, e2⟩ := atI_rel rs hu'
          exact .inl (.inl ⟨_, _, _, v, rfl, rfl, q, e1, OkE.here h s e2⟩)
        · cases hu'
      · split at hu'
        · rename_i ks us k h1 h2
          obtain ⟨p, xs, rfl, q, l, rs⟩ := dictOf_ok s rx h1
          rw [keyU_ok ry h2]
          obtain ⟨v, e1, e2⟩ := (valU_ok (ks := ks) k rs).2 u hu'
          exact .inr ⟨p, v, rfl, by rw [← e1]; exact DGet.k q, OkE.here h s e2⟩
        · cases hu'
  · exact h.elim

/-! ### slices -/
def cutU (us : List U) (lo hi : Option Int) : List U := (us.drop (HT.sIx us.length 0 lo)).take (HT.sIx us.length us.length hi - HT.sIx us.length 0 lo)
theorem cut_rel {K : KM} {w : Wd} {us : List U} {xs : List V} (lo hi : Option Int) (r : VRs K w us xs) : VRs K w (cutU us lo hi) (cutV xs lo hi) := by
  unfold cutU cutV
  rw [← r.length]
  exact (r.drop _).take _
abbrev FO := En → Sto → R (Option Int)
def oNone : FO := fun _ S => .ok none S
def oSome (f : FE) : FO := fun d S => (f d S).bind fun u S1 => match u with
  | .int i => .ok (some i) S1
  | _ => .bad
def OkO (X : Cx) (w : Wd) (Q : Option Int → Hp → Prop) (o : Option Int) (S' : Sto) : Prop := ∀ (w' : Wd), w'.S = S' → Stp w w' → SR (KMof X) w' → Q o w'.H
theorem OkO.up {w w1 : Wd} {Q : Option Int → Hp → Prop} {u : Option Int} {S' : Sto} (h : OkO X w Q u S') (st : Stp w w1) : OkO X w1 Q u S' := fun w' e s2 sr => h w' e (st.trans s2) sr
def tO (X : Cx) (Wx : WX) (f : FO) : TO := fun σ H Q => ∃ (w : Wd) (d : En), w.H = H ∧ SR (KMof X) w ∧ ER (KMof X) w d σ ∧ Pst (f d w.S) (OkO X w Q) (XPost X Wx σ w)
def SimO (X : Cx) (Wx : WX) (e : Option Expr) (f : FO) : Prop := PO X e (tO X Wx f)
theorem SimO.out {e : Option Expr} {f : FO} (h : SimO X Wx e f) : ∃ t, PO X e t ∧ ∀ (w : Wd) (d : En) (σ : L2.St) (Q : Option Int → Hp → Prop), SR (KMof X) w → ER (KMof X) w d σ → Pst (f d w.S) (OkO X w Q) (XPost X Wx σ w) → t σ w.H Q := ⟨_, h, fun w d _ _ s e p => ⟨w, d, rfl, s, e, p⟩⟩
theorem SimO.mk {e : Option Expr} {f : FO} {t : TO} (p : PO X e t) (h : ∀ (w : Wd) (d : En) (σ : L2.St) (Q : Option Int → Hp → Prop), SR (KMof X) w → ER (KMof X) w d σ → Pst (f d w.S) (OkO X w Q) (XPost X Wx σ w) → t σ w.H Q) : SimO X Wx e f :=
  ⟨fun pins s σ H Q I ⟨w, d, e, sr, er, q⟩ => p.run pins s σ H Q I (by subst e; exact h w d σ Q sr er q)⟩
theorem so_none : SimO X Wx none oNone := SimO.mk (po_none) (fun w d σ Q s e h => h w rfl (Stp.refl w) s)
theorem so_some {e : Expr} {f : FE} (h : SimE X Wx e f) : SimO X Wx (some e) (oSome f) := by
  obtain ⟨t, p, h⟩ := h.out
  refine SimO.mk (po_some p) (fun w d σ Q s e h0 => ?_)
  refine h w d σ _ s e ((Pst.of_bind h0).mono (fun u S1 h1 w1 v1 eS st s1 r1 => ?_) fun _ _ q => q)
  cases r1 with
  | int i => exact ⟨i, rfl, h1 w1 eS st s1⟩
  | _ => exact h1.elim
def slB (x : U) (lo hi : Option Int) (S : Sto) : Option U := match x with
  | .str z => if z.length ≤ sizeLine then some (.str (cutS z lo hi)) else none
  | .tup us => some (.tup (cutU us lo hi))
  | x => (listOf x S).map fun us => .lst (cutU us lo hi)
def fSl (f : FE) (l h : FO) : FE := fun d S => (f d S).bind fun u S1 => (l d S1).bind fun lo S2 => (h d S2).bind fun hi S3 => oU (slB u lo hi S3) S3
/-- the parts, from the left -/
theorem slice_parts {te : TE} {tl th : TO} {f : FE} {l hh : FO}
    (h1 : ∀ (w : Wd) (d : En) (σ : L2.St) (Q : VK), SR (KMof X) w → ER (KMof X) w d σ → Pst (f d w.S) (OkE X w Q) (XPost X Wx σ w) → te σ w.H Q)
    (h2 : ∀ (w : Wd) (d : En) (σ : L2.St) (Q : Option Int → Hp → Prop), SR (KMof X) w → ER (KMof X) w d σ → Pst (l d w.S) (OkO X w Q) (XPost X Wx σ w) → tl σ w.H Q)
    (h3 : ∀ (w : Wd) (d : En) (σ : L2.St) (Q : Option Int → Hp → Prop), SR (KMof X) w → ER (KMof X) w d σ → Pst (hh d w.S) (OkO X w Q) (XPost X Wx σ w) → th σ w.H Q)
    {α : Type} {k : U → Option Int → Option Int → Sto → R α} {P : α → Sto → Prop} {r : V → Option Int → Option Int → Hp → Prop} {w : Wd} {d : En} {σ : L2.St} (s : SR (KMof X) w) (e : ER (KMof X) w d σ)
    (hk : ∀ (w' : Wd) u v lo hi, Stp w w' → SR (KMof X) w' → VR (KMof X) w' u v → Pst (k u lo hi w'.S) P (XPost X Wx σ w) → r v lo hi w'.H)
    (h : Pst ((f d w.S).bind fun u S1 => (l d S1).bind fun lo S2 => (hh d S2).bind fun hi S3 => k u lo hi S3) P (XPost X Wx σ w)) :
    te σ w.H fun x H1 => tl σ H1 fun lo H2 => th σ H2 fun u H3 => r x lo u H3 := by
  refine h1 w d σ _ s e ((Pst.of_bind h).mono (fun x S1 g1 w1 v1 eS st s1 r1 => ?_) fun _ _ q => q)
  subst eS
  have e1 := e.ext st.x s
  refine h2 w1 d σ _ s1 e1 ((Pst.of_bind g1).mono (fun lo S2 g2 w2 eS st2 s2 => ?_) fun _ _ q => q.up st)
  subst eS
  have e2 := e1.ext st2.x s1
  refine h3 w2 d σ _ s2 e2 ((Pst.of_bind g2).mono (fun hi S3 g3 w3 eS st3 s3 => ?_) fun _ _ q => q.up (st.trans st2))
  subst eS
  exact hk w3 x v1 lo hi ((st.trans st2).trans st3) s3 ((r1.ext st2.x s1).ext st3.x s2) g3
theorem se_slice {e : Expr} {lo hi : Option Expr} {f : FE} {l h : FO} {p2 pos : Pos} (h1 : SimE X Wx e f) (h2 : SimO X Wx lo l) (h3 : SimO X Wx hi h) : SimE X Wx (.Subscript e (.Slice lo hi none p2) pos) (fSl f l h) := by
  obtain ⟨te, pe, h1⟩ := h1.out
  obtain ⟨tl, pl, h2⟩ := h2.out
  obtain ⟨th, ph, h3⟩ := h3.out
  refine SimE.mk (pe_slice (sl_str.or (sl_tupA.or sl_list)) pe pl ph) (fun w d σ Q s e h => slice_parts h1 h2 h3 s e (fun w' u v lo hi st s' r g => ?_) h)
  unfold oU at g
  split at g
  · rename_i z hz
    have g := OkE.up g st
    unfold slB at hz
    split at hz
    · split at hz
      · rename_i hl
        cases hz
        cases r
        exact .inl ⟨_, rfl, hl, OkE.here g s' (.str _)⟩
      · cases hz
    · cases hz
      cases r with
      | @tup p xs us hq rs =>
        refine .inr (.inl ⟨p, xs, rfl, hq.sq, fun q => ?_, fun q z hz => ?_⟩)
        · refine OkE.here g s' (.tup hq ?_)
          unfold cutU
          rw [rs.length, q.1, q.2, List.drop_zero, Nat.sub_zero, ← rs.length, List.take_length]
          exact rs
        · have st := Stp.new s' (o := .tup (cutV xs lo hi)) hz
          exact g (w'.new z _) (.ref z) rfl st (s'.new hz) (.tup (TqT.of upd_same) ((cut_rel lo hi rs).ext st.x s'))
    · rename_i x _ _
      cases q : listOf u w'.S with
      | none => rw [q] at hz; cases hz
      | some us =>
        rw [q] at hz
        cases hz
        obtain ⟨p, xs, rfl, hq, rs⟩ := listOf_ok s' r q
        refine .inr (.inr ⟨p, xs, rfl, hq, fun z hz => ?_⟩)
        have st := Stp.new s' (o := .lst (cutV xs lo hi)) hz
        exact g (w'.new z _) (.ref z) rfl st (s'.new hz) (.lst upd_same (fun q => s'.tracked q hz) ((cut_rel lo hi rs).ext st.x s'))
  · exact g.elim
/-- a list's slice, as a new list -/
def aSl (f : FE) (l h : FO) : FA := fun d S => (f d S).bind fun u S1 => (l d S1).bind fun lo S2 => (h d S2).bind fun hi S3 => match listOf u S3 with
  | some us => .ok (cutU us lo hi) S3
  | none => .bad
theorem sl_slice {e : Expr} {lo hi : Option Expr} {f : FE} {l h : FO} {p2 pos : Pos} (h1 : SimE X Wx e f) (h2 : SimO X Wx lo l) (h3 : SimO X Wx hi h) : SimL X Wx (.Subscript e (.Slice lo hi none p2) pos) (aSl f l h) := by
  obtain ⟨te, pe, h1⟩ := h1.out
  obtain ⟨tl, pl, h2⟩ := h2.out
  obtain ⟨th, ph, h3⟩ := h3.out
  refine SimL.mk (pe_slice sl_list pe pl ph) (fun w d σ Q s e h => slice_parts h1 h2 h3 s e (fun w' u v lo hi st s' r g => ?_) h)
  split at g
  · rename_i us q
    obtain ⟨p, xs, rfl, hq, rs⟩ := listOf_ok s' r q
    exact ⟨p, xs, rfl, hq, fun z hz => (OkL.up g st) w' z _ rfl (Stp.refl w') s' (cut_rel lo hi rs) hz⟩
  · exact g.elim

/-! ### built-in functions and methods -/
def CallSim (X : Cx) (f : Value) (g : List U → Sto → R U) : Prop := ∃ r, CallR X f r ∧ (∀ us S, noX (g us S)) ∧
  ∀ (w : Wd) (us : List U) (vs : List V) (Q : VK), SR (KMof X) w → VRs (KMof X) w us vs → Pst (g us w.S) (OkE X w Q) (fun _ _ => False) → r vs w.H Q
/-- one that makes a new list -/
def CallSimL (X : Cx) (f : Value) (g : List U → Sto → R (List U)) : Prop := ∃ r, CallR X f r ∧
  ∀ (w : Wd) (us : List U) (vs : List V) (Q : VK) (E : Exc → Sto → Prop), SR (KMof X) w → VRs (KMof X) w us vs → Pst (g us w.S) (OkL X w Q) E → r vs w.H Q
def fA {α : Type} (g : List U → Sto → R α) (fa : FA) : En → Sto → R α := fun d S => (fa d S).bind g
theorem cb_core {es : List Expr} {fa : FA} {ta : TA} {g : List U → Sto → R U} {r : List V → Hp → VK → Prop} (hn : ∀ us S, noX (g us S))
    (hg : ∀ (w : Wd) (us : List U) (vs : List V) (Q : VK), SR (KMof X) w → VRs (KMof X) w us vs → Pst (g us w.S) (OkE X w Q) (fun _ _ => False) → r vs w.H Q)
    (ha : ∀ (w : Wd) (d : En) (σ : L2.St) (Q : List V → Hp → Prop), SR (KMof X) w → ER (KMof X) w d σ → Pst (fa d w.S) (OkA X w Q) (XPost X Wx σ w) → ta σ w.H Q)
    (w : Wd) (d : En) (σ : L2.St) (Q : VK) (s : SR (KMof X) w) (e : ER (KMof X) w d σ) (h : Pst (fA g fa d w.S) (OkE X w Q) (XPost X Wx σ w)) : ta σ w.H fun vs H1 => r vs H1 Q := by
  refine ha w d σ _ s e ((Pst.of_bind h).mono (fun us S1 h1 w1 vs eS st s1 rs => ?_) fun _ _ q => q)
  subst eS
  exact hg w1 us vs Q s1 rs ((pst_noX h1 (hn us w1.S)).mono (fun _ _ q => q.up st) fun _ _ q => q)
theorem cb_coreL {es : List Expr} {fa : FA} {ta : TA} {g : List U → Sto → R (List U)} {r : List V → Hp → VK → Prop}
    (hg : ∀ (w : Wd) (us : List U) (vs : List V) (Q : VK) (E : Exc → Sto → Prop), SR (KMof X) w → VRs (KMof X) w us vs → Pst (g us w.S) (OkL X w Q) E → r vs w.H Q)
    (ha : ∀ (w : Wd) (d : En) (σ : L2.St) (Q : List V → Hp → Prop), SR (KMof X) w → ER (KMof X) w d σ → Pst (fa d w.S) (OkA X w Q) (XPost X Wx σ w) → ta σ w.H Q)
    (w : Wd) (d : En) (σ : L2.St) (Q : VK) (s : SR (KMof X) w) (e : ER (KMof X) w d σ) (h : Pst (fA g fa d w.S) (OkL X w Q) (XPost X Wx σ w)) : ta σ w.H fun vs H1 => r vs H1 Q := by
  refine ha w d σ _ s e ((Pst.of_bind h).mono (fun us S1 h1 w1 vs eS st s1 rs => ?_) fun _ _ q => q)
  subst eS
  exact hg w1 us vs Q _ s1 rs (h1.mono (fun _ _ q => q.up st) fun _ _ q => q)
variable {x : Str} {p pos apos cpos : Pos} {e o : Expr} {es : List Expr} {id T : String} {fa : FA} {fo : FE}
theorem se_callB {g : List U → Sto → R U} (hc : CallSim X (.builtin id) g) (hg : Gl X x) (hm : X.mg x = none) (hv : bootBuiltins x = some (.builtin id)) (ha : SimA X Wx (e :: es) fa) (hn : x ≠ "__name__" := by decide) (hdb : (x == ("__debug__" : Str)) = false := by decide)
    (he : starEach (e :: es) X.env = (false, eval e X.env) :: starEach es X.env := by rfl) (hpl : (backTo pos (starEach es X.env)).any (·.1) = false := by rfl) : SimE X Wx (.Call (.Name x p) (e :: es) [] pos) (fA g fa) := by
  obtain ⟨r, hc, hx, hr⟩ := hc
  obtain ⟨ta, pa, ha⟩ := ha.out
  exact SimE.mk (pe_callB hc hg hm hv pa hn hdb he hpl) (fun w d σ Q s e h => cb_core (es := es) hx hr ha w d σ Q s e h)
theorem se_callTy {g : List U → Sto → R U} (hc : CallSim X (.type T) g) (hg : Gl X x) (hm : X.mg x = none) (hv : bootBuiltins x = some (.type T)) (ha : SimA X Wx (e :: es) fa) (hn : x ≠ "__name__" := by decide) (hdb : (x == ("__debug__" : Str)) = false := by decide)
    (he : starEach (e :: es) X.env = (false, eval e X.env) :: starEach es X.env := by rfl) (hpl : (backTo pos (starEach es X.env)).any (·.1) = false := by rfl) : SimE X Wx (.Call (.Name x p) (e :: es) [] pos) (fA g fa) := by
  obtain ⟨r, hc, hx, hr⟩ := hc
  obtain ⟨ta, pa, ha⟩ := ha.out
  exact SimE.mk (pe_callTy hc hg hm hv pa hn hdb he hpl) (fun w d σ Q s e h => cb_core (es := es) hx hr ha w d σ Q s e h)
theorem sl_callB {g : List U → Sto → R (List U)} (hc : CallSimL X (.builtin id) g) (hg : Gl X x) (hm : X.mg x = none) (hv : bootBuiltins x = some (.builtin id)) (ha : SimA X Wx (e :: es) fa) (hn : x ≠ "__name__" := by decide) (hdb : (x == ("__debug__" : Str)) = false := by decide)
    (he : starEach (e :: es) X.env = (false, eval e X.env) :: starEach es X.env := by rfl) (hpl : (backTo pos (starEach es X.env)).any (·.1) = false := by rfl) : SimL X Wx (.Call (.Name x p) (e :: es) [] pos) (fA g fa) := by
  obtain ⟨r, hc, hr⟩ := hc
  obtain ⟨ta, pa, ha⟩ := ha.out
  exact SimL.mk (pe_callB hc hg hm hv pa hn hdb he hpl) (fun w d σ Q s e h => cb_coreL (es := es) hr ha w d σ Q s e h)
theorem sl_callTy {g : List U → Sto → R (List U)} (hc : CallSimL X (.type T) g) (hg : Gl X x) (hm : X.mg x = none) (hv : bootBuiltins x = some (.type T)) (ha : SimA X Wx (e :: es) fa) (hn : x ≠ "__name__" := by decide) (hdb : (x == ("__debug__" : Str)) = false := by decide)
    (he : starEach (e :: es) X.env = (false, eval e X.env) :: starEach es X.env := by rfl) (hpl : (backTo pos (starEach es X.env)).any (·.1) = false := by rfl) : SimL X Wx (.Call (.Name x p) (e :: es) [] pos) (fA g fa) := by
  obtain ⟨r, hc, hr⟩ := hc
  obtain ⟨ta, pa, ha⟩ := ha.out
  exact SimL.mk (pe_callTy hc hg hm hv pa hn hdb he hpl) (fun w d σ Q s e h => cb_coreL (es := es) hr ha w d σ Q s e h)
/-- of which type a value must be for a method -/
def tyU (T : String) (u : U) (S : Sto) : Bool := match u with
  | .str _ => T == "str"
  | .int _ => T == "int"
  | .lst _ => T == "list"
  | .frz _ => T == "list"
  | .dic _ _ => T == "dict"
  | .loc n => match S[n]? with
    | some (.lst _) => T == "list"
    | some (.dic _ _) => T == "dict"
    | _ => false
  | _ => false
theorem tyU_ok {w : Wd} {u : U} {v : V} {T : String} (s : SR (KMof X) w) (r : VR (KMof X) w u v) (h : tyU T u w.S = true) : tyV X.K T v w.H := by
  cases r with
  | str z => exact eq_of_beq h
  | int i => exact eq_of_beq h
  | lst hq n rs => exact .inl ⟨eq_of_beq h, _, SqL.of hq⟩
  | frz hq rs => exact .inl ⟨eq_of_beq h, _, hq.sq⟩
  | dic hq n l rs => exact .inr (.inr (.inl ⟨eq_of_beq h, .inl ⟨_, hq⟩⟩))
  | @loc n a hm =>
    unfold tyU at h
    dsimp only at h
    split at h
    · rename_i us hS
      obtain ⟨xs, q, rs⟩ := s.obj n a _ hm hS
      exact .inl ⟨eq_of_beq h, _, SqL.of q⟩
    · rename_i ks us hS
      obtain ⟨xs, q, l, rs⟩ := s.obj n a _ hm hS
      exact .inr (.inr (.inl ⟨eq_of_beq h, .inl ⟨_, q⟩⟩))
    · cases h
  | _ => cases h
def MtSim (X : Cx) (id : String) (g : U → List U → Sto → R U) : Prop := ∃ r, MtR X id r ∧ (∀ u us S, noX (g u us S)) ∧
  ∀ (w : Wd) (u : U) (us : List U) (v : V) (vs : List V) (Q : VK), SR (KMof X) w → VR (KMof X) w u v → VRs (KMof X) w us vs → Pst (g u us w.S) (OkE X w Q) (fun _ _ => False) → r v vs w.H Q
def fM (T : String) (g : U → List U → Sto → R U) (fo : FE) (fa : FA) : FE := fun d S => (fo d S).bind fun u S1 => guard (tyU T u S1) ((fa d S1).bind fun us S2 => g u us S2)
theorem se_bm {name : Str} {g : U → List U → Sto → R U} (pa : PlainAttrs T) (slot : Slot T name id) (hty : typeOf (.builtin id) = pure (.type "method_descriptor")) (hm : MtSim X id g) (ho : SimE X Wx o fo) (ha : SimA X Wx (e :: es) fa)
    (hbase : attributeBase o name X.env (eval o X.env) = eval o X.env := by rfl)
    (hfew : ((backTo cpos (starEach (e :: es) X.env)).all (fun x => !x.1) && (backToKw cpos (keywordEach [] X.env)).all (fun x => x.1.isSome)
      && decide ((e :: es).length + ([] : List Keyword).length + (if ([] : List Keyword).isEmpty then 0 else 1) < 30)) = true := by rfl)
    (hline : (apos.endLine == cpos.line) = true := by rfl) (hs : starEach (e :: es) X.env = (false, eval e X.env) :: starEach es X.env := by rfl) (hplain : (backTo cpos (starEach es X.env)).any (·.1) = false := by rfl) :
    SimE X Wx (.Call (.Attribute o name apos) (e :: es) [] cpos) (fM T g fo fa) := by
  obtain ⟨r, hm, hx, hr⟩ := hm
  obtain ⟨to, po, ho⟩ := ho.out
  obtain ⟨ta, pa', ha⟩ := ha.out
  refine SimE.mk (pe_bm pa slot hty hm po pa' hbase hfew hline hs hplain) (fun w d σ Q s e h => ?_)
  refine ho w d σ _ s e ((Pst.of_bind h).mono (fun u S1 h1 w1 v eS st s1 ru => ?_) fun _ _ q => q)
  subst eS
  obtain ⟨ht, h1⟩ := guard_post h1
  refine ⟨tyU_ok s1 ru ht, ?_⟩
  refine ha w1 d σ _ s1 (e.ext st.x s) ((Pst.of_bind h1).mono (fun us S2 h2 w2 vs eS st2 s2 rs => ?_) fun _ _ q => q.up st)
  subst eS
  exact hr w2 u us v vs Q s2 (ru.ext st2.x s1) rs ((pst_noX h2 (hx u us w2.S)).mono (fun _ _ q => q.up (st.trans st2)) fun _ _ q => q)
theorem se_bm0 {name : Str} {g : U → List U → Sto → R U} (pa : PlainAttrs T) (slot : Slot T name id) (hty : typeOf (.builtin id) = pure (.type "method_descriptor")) (hm : MtSim X id g) (ho : SimE X Wx o fo)
    (hbase : attributeBase o name X.env (eval o X.env) = eval o X.env := by rfl) (hline : (apos.endLine == cpos.line) = true := by rfl) :
    SimE X Wx (.Call (.Attribute o name apos) [] [] cpos) (fM T g fo aNil) := by
  obtain ⟨r, hm, hx, hr⟩ := hm
  obtain ⟨to, po, ho⟩ := ho.out
  refine SimE.mk (pe_bm0 pa slot hty hm po hbase hline) (fun w d σ Q s e h => ?_)
  refine ho w d σ _ s e ((Pst.of_bind h).mono (fun u S1 h1 w1 v eS st s1 ru => ?_) fun _ _ q => q)
  subst eS
  obtain ⟨ht, h1⟩ := guard_post h1
  exact ⟨tyU_ok s1 ru ht, hr w1 u [] v [] Q s1 ru .nil ((pst_noX h1 (hx u [] w1.S)).mono (fun _ _ q => q.up st) fun _ _ q => q)⟩
end
end DL

set_option Elab.async false
set_option linter.all false
set_option maxRecDepth 100000
namespace DL
open PySem PySem.Spec L2
section
variable {X : Cx} {Wx : WX}

/-! ### len, isinstance, min, max, int, sum, all, any, list, tuple -/
def lenU (u : U) (S : Sto) : Option Nat := match u with
  | .str z => if z.length ≤ sizeLine then some z.length else none
  | .tup us => some us.length
  | u => match listOf u S with
    | some us => some us.length
    | none => (dictOf u S).map fun p => p.1.length
def lenC (us : List U) (S : Sto) : R U := match us with
  | [u] => match lenU u S with
    | some n => .ok (.int n) S
    | none => .bad
  | _ => .bad
theorem zip_len {K : KM} {w : Wd} {ks : List Key} {us : List U} {xs : List V} (l : ks.length = us.length) (r : VRs K w us xs) : (ks.zip xs).length = ks.length := by
  rw [List.length_zip, ← r.length, ← l, Nat.min_self]
theorem cs_len : CallSim X (.builtin "len") lenC := by
  refine ⟨_, call_len.or call_lenD, fun us S => by unfold lenC; split <;> first | trivial | (split <;> trivial), fun w us vs Q s rs h => ?_⟩
  unfold lenC at h
  split at h
  · rename_i u
    cases rs with
    | cons r rs =>
      cases rs
      split at h
      · rename_i n hn
        have q := OkE.here h s (.int n)
        unfold lenU at hn
        split at hn
        · split at hn
          · rename_i hl
            cases hn; cases r
            exact .inl ⟨_, _, rfl, ⟨hl, rfl⟩, q⟩
          · cases hn
        · cases hn
          cases r with
          | tup hq rs => exact .inl ⟨_, _, rfl, .inr ⟨_, hq.sq, rs.length⟩, q⟩
        · split at hn
          · rename_i us hl
            cases hn
            obtain ⟨a, xs, rfl, hq, rs⟩ := listOf_ok s r hl
            exact .inl ⟨_, _, rfl, .inl ⟨_, hq, rs.length⟩, q⟩
          · cases hd : dictOf u w.S with
            | none => rw [hd] at hn; cases hn
            | some p =>
              obtain ⟨ks, us⟩ := p
              rw [hd] at hn
              cases hn
              obtain ⟨a, xs, rfl, hq, l, rs⟩ := dictOf_ok s r hd
              refine .inr ⟨a, _, rfl, hq, ?_⟩
              rw [zip_len l rs]
              exact q
      · exact h.elim
  · exact h.elim
def tyName (u : U) (S : Sto) : Option String := match u with
  | .non => some "NoneType"
  | .bl _ => some "bool"
  | .int _ => some "int"
  | .str _ => some "str"
  | .tup _ => some "tuple"
  | .lst _ => some "list"
  | .frz _ => some "list"
  | .dic _ _ => some "dict"
  | .loc n => match S[n]? with
    | some (.lst _) => some "list"
    | some (.dic _ _) => some "dict"
    | _ => none
  | .ty _ => none
  | .exc _ _ _ => none
  | .cl _ => none
theorem tyName_ok {w : Wd} {u : U} {v : V} {t : String} (s : SR (KMof X) w) (r : VR (KMof X) w u v) (h : tyName u w.S = some t) : TyX X.K w.H v (.type t) := by
  cases r with
  | non => cases h; exact .base .non
  | bl b => cases h; exact .base (.bl b)
  | int i => cases h; exact .base (.int i)
  | str x => cases h; exact .base (.str x)
  | tup hq rs =>
    cases h
    rcases hq with q | ⟨o, its, n, h1, h2, _⟩
    · exact .base (.tup q)
    · exact .kTuple h1 h2
  | lst hq n rs => cases h; exact .base (.lst hq)
  | frz hq rs =>
    cases h
    rcases hq with ⟨o, q⟩ | ⟨o, its, n, h1, h2, _⟩
    · exact .base (.frz q)
    · exact .kList h1 h2
  | dic hq n l rs => cases h; exact .base (.dK hq)
  | @loc n a hm =>
    unfold tyName at h
    dsimp only at h
    split at h
    · rename_i us hS
      cases h
      obtain ⟨xs, q, rs⟩ := s.obj n a _ hm hS
      exact .base (.lst q)
    · rename_i ks us hS
      cases h
      obtain ⟨xs, q, l, rs⟩ := s.obj n a _ hm hS
      exact .base (.dK q)
    · cases h
  | ty n => cases h
  | exc _ _ _ _ => cases h
  | cl _ => cases h
/-- isinstance of built-in kinds -/
def isK (a b : String) : Bool := a == b || (a == "bool" && b == "int")
def kinds : List String := ["NoneType", "bool", "int", "str", "tuple", "list", "dict"]
def asked : List String := ["bool", "int", "str", "tuple", "list", "dict"]
theorem kit_all : (kinds.all fun a => asked.all fun b => decide (kitB a b = some (isK a b))) = true := by decide +kernel
theorem kit_isK {a b : String} (ha : a ∈ kinds) (hb : b ∈ asked) : kitB a b = some (isK a b) := by
  have h := List.all_eq_true.mp kit_all a ha
  exact of_decide_eq_true (List.all_eq_true.mp h b hb)
theorem tyName_kinds {u : U} {S : Sto} {t : String} (h : tyName u S = some t) : t ∈ kinds := by
  unfold tyName at h
  split at h
  all_goals first
    | (cases h; decide)
    | (split at h <;> first | (cases h; decide) | cases h)
    | cases h
def isiC (us : List U) (S : Sto) : R U := match us with
  | [u, .ty b] => match tyName u S with
    | some a => guard (asked.contains b) (.ok (.bl (isK a b)) S)
    | none => .bad
  | [u, .tup [.ty b, .ty c]] => match tyName u S with
    | some a => guard (asked.contains b && asked.contains c) (.ok (.bl (isK a b || isK a c)) S)
    | none => .bad
  | _ => .bad
theorem noX_isi (us : List U) (S : Sto) : noX (isiC us S) := by
  unfold isiC
  split
  · split <;> first | trivial | exact noX_guard trivial
  · split <;> first | trivial | exact noX_guard trivial
  · trivial
theorem cs_isi : CallSim X (.builtin "isinstance") isiC := by
  refine ⟨_, call_isi.or (call_isiT.or call_isiK), noX_isi, fun w us vs Q s rs h => ?_⟩
  unfold isiC at h
  split at h
  · rename_i u b
    split at h
    · rename_i a ha
      obtain ⟨hb, h⟩ := guard_post h
      have hb' : b ∈ asked := List.contains_iff_mem.mp hb
      cases rs with
      | cons r rs =>
        cases rs with
        | cons r2 rs =>
          cases rs
          cases r2
          exact .inl ⟨_, _, _, _, _, rfl, .ty b, tyName_ok s r ha, kit_ty (kit_isK (tyName_kinds ha) hb'), OkE.here h s (.bl _)⟩
    · exact h.elim
  · rename_i u b c
    split at h
    · rename_i a ha
      obtain ⟨hb, h⟩ := guard_post h
      rw [Bool.and_eq_true] at hb
      have hb' : b ∈ asked := List.contains_iff_mem.mp hb.1
      have hc' : c ∈ asked := List.contains_iff_mem.mp hb.2
      have hk := tyName_kinds ha
      have kk : ∀ K, PySem.W.kitAny K (.type a) [.type b, .type c] = some (isK a b || isK a c) := fun K => by
        refine kitAny_cons (kit_ty (kit_isK hk hb')) (fun e => ?_) (fun e => by rw [e]; rfl)
        rw [e, Bool.false_or]
        exact kitAny_cons (kit_ty (kit_isK hk hc')) (fun e => by rw [e]; exact kitAny_nil) (fun e => e)
      cases rs with
      | cons r rs =>
        cases rs with
        | cons r2 rs =>
          cases rs
          cases r2 with
          | @tup tp xs _ hq rs2 =>
            cases rs2 with
            | cons q1 rs2 =>
              cases rs2 with
              | cons q2 rs2 =>
                cases rs2
                cases q1
                cases q2
                rcases hq with q | ⟨o, its, n, h1, h2, h3, h4, h5⟩
                · exact .inr (.inl ⟨_, tp, _, _, _, _, rfl, q, .cons (.ty b) (.cons (.ty c) .nil), tyName_ok s r ha, kk _, OkE.here h s (.bl _)⟩)
                · obtain ⟨oc, od, dt, sl⟩ := o
                  simp only at h2 h3
                  subst h2 h3
                  have e5 : its.toList = [.type b, .type c] := ClsV.all (.cons (.ty b) (.cons (.ty c) .nil)) h5
                  have e6 : its = ([.type b, .type c] : List Value).toArray := by rw [← e5]
                  subst e6
                  exact .inr (.inr ⟨_, tp, od, _, n, sl, _, _, rfl, h1, tyName_ok s r ha, kk _, OkE.here h s (.bl _)⟩)
    · exact h.elim
  · exact h.elim
def minC (us : List U) (S : Sto) : R U := match us with
  | [.int i, .int j] => .ok (.int (if j < i then j else i)) S
  | _ => .bad
def maxC (us : List U) (S : Sto) : R U := match us with
  | [.int i, .int j] => .ok (.int (if j > i then j else i)) S
  | _ => .bad
def intC (us : List U) (S : Sto) : R U := match us with
  | [.int i] => .ok (.int i) S
  | [.bl b] => .ok (.int (if b then 1 else 0)) S
  | _ => .bad
theorem cs_min (hc : X.calm = true) : CallSim X (.builtin "min") minC := by
  refine ⟨_, call_min2 hc, fun us S => by unfold minC; split <;> trivial, fun w us vs Q s rs h => ?_⟩
  unfold minC at h
  split at h
  · cases rs with
    | cons r rs =>
      cases rs with
      | cons r2 rs =>
        cases rs; cases r; cases r2
        exact ⟨_, _, rfl, OkE.here h s (.int _)⟩
  · exact h.elim
theorem cs_max (hc : X.calm = true) : CallSim X (.builtin "max") maxC := by
  refine ⟨_, call_max2 hc, fun us S => by unfold maxC; split <;> trivial, fun w us vs Q s rs h => ?_⟩
  unfold maxC at h
  split at h
  · cases rs with
    | cons r rs =>
      cases rs with
      | cons r2 rs =>
        cases rs; cases r; cases r2
        exact ⟨_, _, rfl, OkE.here h s (.int _)⟩
  · exact h.elim
theorem cs_int : CallSim X (.type "int") intC := by
  refine ⟨_, call_int1, fun us S => by unfold intC; split <;> trivial, fun w us vs Q s rs h => ?_⟩
  unfold intC at h
  split at h
  · cases rs with
    | cons r rs => cases rs; cases r; exact .inl ⟨_, rfl, OkE.here h s (.int _)⟩
  · cases rs with
    | cons r rs => cases rs; cases r; exact .inr ⟨_, rfl, OkE.here h s (.int _)⟩
  · exact h.elim
def boolsOf : List U → Option (List Bool)
  | [] => some []
  | .bl b :: us => (boolsOf us).map (b :: ·)
  | _ => none
def intsOf : List U → Option (List Int)
  | [] => some []
  | .int i :: us => (intsOf us).map (i :: ·)
  | _ => none
def strsOf : List U → Option (List Str)
  | [] => some []
  | .str i :: us => (strsOf us).map (i :: ·)
  | _ => none
theorem boolsOf_ok {K : KM} {w : Wd} : ∀ {us : List U} {vs : List V} {bs : List Bool}, VRs K w us vs → boolsOf us = some bs → vs = bs.map V.bl
  | _, _, _, .nil, h => by cases h; rfl
  | _, _, _, .cons (us := us) r rs, h => by
    cases r with
    | bl b =>
      unfold boolsOf at h
      cases e : boolsOf us with
      | none => rw [e] at h; cases h
      | some bs => rw [e] at h; cases h; rw [boolsOf_ok rs e]; rfl
    | _ => unfold boolsOf at h; cases h
theorem intsOf_ok {K : KM} {w : Wd} : ∀ {us : List U} {vs : List V} {bs : List Int}, VRs K w us vs → intsOf us = some bs → vs = bs.map V.int
  | _, _, _, .nil, h => by cases h; rfl
  | _, _, _, .cons (us := us) r rs, h => by
    cases r with
    | int b =>
      unfold intsOf at h
      cases e : intsOf us with
      | none => rw [e] at h; cases h
      | some bs => rw [e] at h; cases h; rw [intsOf_ok rs e]; rfl
    | _ => unfold intsOf at h; cases h
theorem strsOf_ok {K : KM} {w : Wd} : ∀ {us : List U} {vs : List V} {bs : List Str}, VRs K w us vs → strsOf us = some bs → vs = bs.map V.str
  | _, _, _, .nil, h => by cases h; rfl
  | _, _, _, .cons (us := us) r rs, h => by
    cases r with
    | str b =>
      unfold strsOf at h
      cases e : strsOf us with
      | none => rw [e] at h; cases h
      | some bs => rw [e] at h; cases h; rw [strsOf_ok rs e]; rfl
    | _ => unfold strsOf at h; cases h
def overL {α : Type} (p : List U → Option α) (k : α → U) (us : List U) (S : Sto) : R U := match us with
  | [u] => match listOf u S with
    | some xs => match p xs with
      | some a => .ok (k a) S
      | none => .bad
    | none => .bad
  | _ => .bad
theorem noX_over {α : Type} (p : List U → Option α) (k : α → U) (us : List U) (S : Sto) : noX (overL p k us S) := by
  unfold overL
  split
  · split
    · split <;> trivial
    · trivial
  · trivial
theorem over_ok {α : Type} {p : List U → Option α} {k : α → U} {w : Wd} {us : List U} {vs : List V} {Q : VK} {E : Exc → Sto → Prop} (s : SR (KMof X) w) (rs : VRs (KMof X) w us vs) (h : Pst (overL p k us w.S) (OkE X w Q) E) (hE : ∀ x S, ¬ E x S) :
    ∃ a xs ys b, vs = [.ref a] ∧ SqL X.K w.H a ys ∧ VRs (KMof X) w xs ys ∧ p xs = some b ∧ OkE X w Q (k b) w.S := by
  unfold overL at h
  split at h
  · cases rs with
    | cons r rs =>
      cases rs
      split at h
      · rename_i xs hl
        split at h
        · rename_i b hb
          obtain ⟨a, ys, rfl, hq, q⟩ := listOf_ok s r hl
          exact ⟨a, xs, ys, b, rfl, hq, q, hb, h⟩
        · exact h.elim
      · exact h.elim
  · exact h.elim
abbrev sumC := overL intsOf fun ns => .int ns.sum
abbrev allC := overL boolsOf fun bs => .bl (bs.all id)
abbrev anyC := overL boolsOf fun bs => .bl (bs.any id)
theorem cs_sum (hc : X.calm = true) : CallSim X (.builtin "sum") sumC := by
  refine ⟨_, cr_sum hc, noX_over _ _, fun w us vs Q s rs h => ?_⟩
  obtain ⟨a, xs, ys, b, rfl, hq, r, e, q⟩ := over_ok s rs h fun _ _ z => z
  rw [intsOf_ok r e] at hq
  exact ⟨a, b, rfl, hq, OkE.here q s (.int _)⟩
theorem cs_all (hc : X.calm = true) : CallSim X (.builtin "all") allC := by
  refine ⟨_, cr_all hc, noX_over _ _, fun w us vs Q s rs h => ?_⟩
  obtain ⟨a, xs, ys, b, rfl, hq, r, e, q⟩ := over_ok s rs h fun _ _ z => z
  rw [boolsOf_ok r e] at hq
  exact ⟨a, b, rfl, hq, OkE.here q s (.bl _)⟩
theorem cs_any (hc : X.calm = true) : CallSim X (.builtin "any") anyC := by
  refine ⟨_, cr_any hc, noX_over _ _, fun w us vs Q s rs h => ?_⟩
  obtain ⟨a, xs, ys, b, rfl, hq, r, e, q⟩ := over_ok s rs h fun _ _ z => z
  rw [boolsOf_ok r e] at hq
  exact ⟨a, b, rfl, hq, OkE.here q s (.bl _)⟩
/-- items of a list or a tuple -/
def seqOf (u : U) (S : Sto) : Option (List U) := match u with
  | .tup us => some us
  | u => listOf u S
theorem seqOf_ok {w : Wd} {u : U} {v : V} {us : List U} (s : SR (KMof X) w) (r : VR (KMof X) w u v) (h : seqOf u w.S = some us) : ∃ a xs, v = .ref a ∧ (SqL X.K w.H a xs ∨ SqT X.K w.H a xs) ∧ VRs (KMof X) w us xs := by
  unfold seqOf at h
  split at h
  · cases h
    cases r with
    | tup hq rs => exact ⟨_, _, rfl, .inr hq.sq, rs⟩
  · obtain ⟨a, xs, e, q, rs⟩ := listOf_ok s r h
    exact ⟨a, xs, e, .inl q, rs⟩
def listC (us : List U) (S : Sto) : R (List U) := match us with
  | [u] => match seqOf u S with
    | some xs => .ok xs S
    | none => .bad
  | _ => .bad
theorem cl_list : CallSimL X (.type "list") listC := by
  refine ⟨_, call_list_of, fun w us vs Q E s rs h => ?_⟩
  unfold listC at h
  split at h
  · cases rs with
    | cons r rs =>
      cases rs
      split at h
      · rename_i xs hl
        obtain ⟨a, ys, rfl, hq, q⟩ := seqOf_ok s r hl
        exact ⟨a, ys, rfl, hq, fun l hl => h w l ys rfl (Stp.refl w) s q hl⟩
      · exact h.elim
  · exact h.elim
def tupleC (us : List U) (S : Sto) : R U := match us with
  | [u] => match seqOf u S with
    | some xs => .ok (.tup xs) S
    | none => .bad
  | _ => .bad
theorem cs_tuple : CallSim X (.type "tuple") tupleC := by
  refine ⟨_, call_tuple_of, fun us S => by unfold tupleC; split <;> first | trivial | (split <;> trivial), fun w us vs Q s rs h => ?_⟩
  unfold tupleC at h
  split at h
  · cases rs with
    | cons r rs =>
      cases rs
      split at h
      · rename_i xs hl
        unfold seqOf at hl
        split at hl
        · cases hl
          cases r with
          | tup hq rs => exact ⟨_, _, rfl, .inr ⟨hq.sq, OkE.here h s (.tup hq rs)⟩⟩
        · obtain ⟨a, ys, rfl, hq, q⟩ := listOf_ok s r hl
          refine ⟨a, ys, rfl, .inl ⟨hq, fun l hl => ?_⟩⟩
          have st := Stp.new s (o := .tup ys) hl
          exact h (w.new l _) (.ref l) rfl st (s.new hl) (.tup (TqT.of upd_same) (q.ext st.x s))
      · exact h.elim
  · exact h.elim

/-! ### methods -/
def appM (u : U) (us : List U) (S : Sto) : R U := match u, us with
  | .loc n, [y] => match S[n]? with
    | some (.lst xs) => guard (decide (xs.length < sizeLine)) (.ok .non (S.set n (.lst (xs ++ [y]))))
    | _ => .bad
  | _, _ => .bad
theorem ms_append : MtSim X "list.append" appM := by
  refine ⟨_, mt_append, fun u us S => by unfold appM; split <;> first | trivial | (split <;> first | trivial | exact noX_guard trivial), fun w u us v vs Q s r rs h => ?_⟩
  unfold appM at h
  split at h
  · rename_i n y
    split at h
    · rename_i xs hS
      obtain ⟨hl, h⟩ := guard_post h
      cases r with
      | @loc _ a hm =>
        cases rs with
        | cons ry rs =>
          cases rs
          obtain ⟨ys, q, r2⟩ := s.obj n a _ hm hS
          rename_i vy
          refine ⟨a, ys, vy, rfl, rfl, q, by rw [← r2.length]; exact of_decide_eq_true hl, ?_⟩
          have st : Stp w (w.put n a (.lst (ys ++ [vy])) (.lst (xs ++ [y]))) := Stp.put s hm hS (by intro z; cases z)
          exact h _ .non rfl st (s.put hm hS (by intro z; cases z) ⟨_, upd_same, (r2.snoc ry).ext st.x s⟩) .non
    · exact h.elim
  · exact h.elim
def splitM (u : U) (us : List U) (S : Sto) : R U := match u, us with
  | .str a, [.str b] => guard (!(b.length == 0) && decide (a.length + 2 ≤ sizeLine)) (.ok (.lst ((Txt.split a b).map .str)) S)
  | _, _ => .bad
theorem strs_rel {K : KM} {w : Wd} : ∀ ys : List Str, VRs K w (ys.map .str) (ys.map V.str)
  | [] => .nil
  | y :: ys => .cons (.str y) (strs_rel ys)
theorem new_strs {w : Wd} {Q : VK} {ys : List Str} (s : SR (KMof X) w) (h : OkE X w Q (.lst (ys.map .str)) w.S) : rNewStrs ys w.H Q := fun p hp => by
  have st := Stp.new s (o := .lst (ys.map V.str)) hp
  exact h (w.new p _) (.ref p) rfl st (s.new hp) (.lst upd_same (fun q => s.tracked q hp) (strs_rel ys))
theorem ms_split : MtSim X "str.split" splitM := by
  refine ⟨_, mt_split, fun u us S => by unfold splitM; split <;> first | trivial | exact noX_guard trivial, fun w u us v vs Q s r rs h => ?_⟩
  unfold splitM at h
  split at h
  · obtain ⟨hl, h⟩ := guard_post h
    rw [Bool.and_eq_true, Bool.not_eq_true'] at hl
    cases r
    cases rs with
    | cons r2 rs =>
      cases rs; cases r2
      exact ⟨_, _, rfl, rfl, hl.1, of_decide_eq_true hl.2, new_strs s h⟩
  · exact h.elim
def joinM (u : U) (us : List U) (S : Sto) : R U := match u, us with
  | .str a, [l] => match seqOf l S with
    | some xs => match strsOf xs with
      | some ys => guard (decide ((ys.map (·.length)).sum + ys.length * a.length ≤ 16777216)) (.ok (.str (Txt.join a ys)) S)
      | none => .bad
    | none => .bad
  | _, _ => .bad
theorem ms_join : MtSim X "str.join" joinM := by
  refine ⟨_, mt_join, fun u us S => by unfold joinM; split <;> first | trivial | (split <;> first | trivial | (split <;> first | trivial | exact noX_guard trivial)), fun w u us v vs Q s r rs h => ?_⟩
  unfold joinM at h
  split at h
  · split at h
    · rename_i xs hx
      split at h
      · rename_i ys hy
        obtain ⟨hl, h⟩ := guard_post h
        cases r
        cases rs with
        | cons r2 rs =>
          cases rs
          obtain ⟨p, zs, rfl, hq, q⟩ := seqOf_ok s r2 hx
          have e := strsOf_ok q hy
          subst e
          exact ⟨_, p, ys, rfl, rfl, hq, of_decide_eq_true hl, OkE.here h s (.str _)⟩
      · exact h.elim
    · exact h.elim
  · exact h.elim
def getM (u : U) (us : List U) (S : Sto) : R U := match dictOf u S, us with
  | some (ks, xs), [k] => match keyU k with
    | some k => .ok ((valU ks xs k).getD .non) S
    | none => .bad
  | some (ks, xs), [k, z] => match keyU k with
    | some k => .ok ((valU ks xs k).getD z) S
    | none => .bad
  | _, _ => .bad
theorem mt_dget (hu : X.A.units + 1 < cLine) : MtR X "dict.get" (fun x xs H Q => (∃ a y o, x = .ref a ∧ xs = [y] ∧ DGet H a y o ∧ Q (o.getD .non) H) ∨ ∃ a y z o, x = .ref a ∧ xs = [y, z] ∧ DGet H a y o ∧ Q (o.getD z) H) := by
  intro pins s σ H x xs v us Q I rx rs h
  rcases h with ⟨a, y, o, rfl, rfl, g, q⟩ | ⟨a, y, z, o, rfl, rfl, g, q⟩
  · cases rx
    obtain ⟨u, rfl, ru⟩ := vals1 rs
    exact d_get1 hu I g ru fun w' s' I' r' => ⟨_, H, I', r', q⟩
  · cases rx
    obtain ⟨u, u2, rfl, ru, ru2⟩ := vals2 rs
    exact d_get2 hu I g ru ru2 fun w' s' I' r' => ⟨_, H, I', r', q⟩
theorem valU_getD {K : KM} {w : Wd} {ks : List Key} {us : List U} {xs : List V} (k : Key) (r : VRs K w us xs) {z : U} {vz : V} (rz : VR K w z vz) : VR K w ((valU ks us k).getD z) ((valV (ks.zip xs) k).getD vz) := by
  obtain ⟨h1, h2⟩ := valU_ok (ks := ks) k r
  cases h : valU ks us k with
  | none => rw [h1 h]; exact rz
  | some u => obtain ⟨v, e, q⟩ := h2 u h; rw [e]; exact q
theorem ms_get (hu : X.A.units + 1 < cLine) : MtSim X "dict.get" getM := by
  refine ⟨_, mt_dget hu, fun u us S => by unfold getM; split <;> first | trivial | (split <;> trivial), fun w u us v vs Q s r rs h => ?_⟩
  unfold getM at h
  split at h
  · rename_i ks xs k hd
    split at h
    · rename_i k' hk
      obtain ⟨a, ys, rfl, hq, l, r2⟩ := dictOf_ok s r hd
      cases rs with
      | cons rk rs =>
        cases rs
        rw [keyU_ok rk hk]
        exact .inl ⟨a, _, _, rfl, rfl, DGet.k hq, OkE.here h s (valU_getD k' r2 .non)⟩
    · exact h.elim
  · rename_i ks xs k z hd
    split at h
    · rename_i k' hk
      obtain ⟨a, ys, rfl, hq, l, r2⟩ := dictOf_ok s r hd
      cases rs with
      | cons rk rs =>
        cases rs with
        | cons rz rs =>
          cases rs
          rw [keyU_ok rk hk]
          exact .inr ⟨a, _, _, _, rfl, rfl, DGet.k hq, OkE.here h s (valU_getD k' r2 rz)⟩
    · exact h.elim
  · exact h.elim
end
end DL

set_option Elab.async false
set_option linter.all false
set_option maxRecDepth 100000
namespace DL
open PySem PySem.Spec L2

/-! ### a def's promise -/
/-- called with us (n of them) it does g -/
def spOf (K : KM) (n : Nat) (g : List U → Sto → R U) : Sp := fun vs H Q E => ∃ (w : Wd) (us : List U), w.H = H ∧ SR K w ∧ VRs K w us vs ∧ us.length = n ∧
  Pst (g us w.S) (fun u S' => ∀ (w' : Wd) (v : V), w'.S = S' → Stp w w' → SR K w' → VR K w' u v → Q v w'.H)
    (fun x S' => ∀ (w' : Wd) (cls : Value) (d : Option Addr), w'.S = S' → Stp w w' → SR K w' → XRel K w' x cls d → E cls d w'.H)
def endB (fl : Fl) (S : Sto) : R U := match fl with
  | .nx _ => .ok .non S
  | .rt u => .ok u S
  | .ex x _ => .exc x S
  | _ => .bad
def runB (body : FS) (d : En) (S : Sto) : R U := match body d S with
  | .ok fl S' => endB fl S'
  | _ => .bad
theorem fn_sim {P : Program} {w : World} {K : PySem.W.Frag} {mg : Str → Option Value} {base : Heap} {x qual : Str} {st : Stmt} {f : Addr} {fd : FuncData} {N ps : List Str} {k : Nat} {g : List U → Sto → R U} {body : FS}
    (F : Fun K x qual st f fd) (Sc : FnScope N ps (defScope st)) (hg : ∀ us S, us.length = ps.length → g us S = runB body (enStart N.length us) S)
    (hbody : ∀ (cdv : Value) (A : Around) (outer : List Env) (s : Shared) (H : Hp) (E : XK), Room k (A.deeper (PyProof.Rows.envOfC qual (defScope st) s.heap.objs.size f cdv)) →
      SimB (cxOf (L2.CX P w) P w K mg base N qual (defScope st) f cdv A outer s H E) (fun cls d _ H' => E cls d H') (defBody st) body) : FnOk P w K mg base (L2.CX P w) (k + 1) f fd ps (spOf ⟨K, mg, P, w⟩ ps.length g) := by
  refine F.okX Sc (fun vs H Q E h => ?_) fun cdv A outer s H vs Q E hr h => ?_
  · obtain ⟨w, us, _, _, rs, l, _⟩ := h
    rw [← rs.length, l]
  · obtain ⟨w, us, e, sr, rs, l, q⟩ := h
    subst e
    obtain ⟨t, p, hb⟩ := (hbody cdv A outer s w.H E hr).out
    refine ⟨t, p, hb w (enStart N.length us) (start N vs) _ sr (ER.start rs) ?_⟩
    rw [hg us w.S l] at q
    unfold runB at q
    cases hh : body (enStart N.length us) w.S with
    | ok fl S1 =>
      rw [hh] at q
      intro w1 eS st s1
      cases fl with
      | nx d => exact fun σ' _ => q w1 .non eS st s1 .non
      | rt u => exact fun v r => q w1 v eS st s1 r
      | bk d => exact q.elim
      | ct d => exact q.elim
      | ex x d => exact fun σ' _ cls dd xr => q w1 cls dd eS st s1 xr
    | bad => rw [hh] at q; exact q.elim
    | exc y S => rw [hh] at q; exact q.elim

section
variable {X : Cx} {Wx : WX}
/-- what a callee lets out is taken -/
abbrev PasX (X : Cx) (Wx : WX) : Prop := ∀ σ, PassesAt (L2.CX X.prog X.w) X σ (fun c d H => Wx c d σ H)
theorem pas_of (tk : Takes X Wx) : PasX X Wx := fun σ => passAt tk σ
theorem pas_none : PasX X (fun _ _ _ _ => False) := fun σ => passAt takes0 σ
theorem call_core {n k : Nat} {f : Addr} {fd : FuncData} {ps : List Str} {g : List U → Sto → R U} {fa : FA} {ta : TA}
    (ha : ∀ (w : Wd) (d : En) (σ : L2.St) (Q : List V → Hp → Prop), SR (KMof X) w → ER (KMof X) w d σ → Pst (fa d w.S) (OkA X w Q) (XPost X Wx σ w) → ta σ w.H Q)
    (w : Wd) (d : En) (σ : L2.St) (Q : VK) (s : SR (KMof X) w) (e : ER (KMof X) w d σ) (h : Pst (fA (fun us S => guard (us.length == n) (g us S)) fa d w.S) (OkE X w Q) (XPost X Wx σ w)) :
    tCallSD (spOf (KMof X) n g) [] (fun σ c d H => Wx c d σ H) ta σ w.H Q := by
  refine ha w d σ _ s e ((Pst.of_bind h).mono (fun us S1 h1 w1 vs eS st s1 rs => ?_) fun _ _ q => q)
  subst eS
  obtain ⟨hl, h1⟩ := guard_post h1
  rw [List.append_nil]
  exact ⟨w1, us, rfl, s1, rs, eq_of_beq hl, h1.mono (fun u S2 q w2 v e2 st2 s2 r2 => q w2 v e2 (st.trans st2) s2 r2) fun x S2 q w2 cls dd e2 st2 s2 xr => q w2 cls dd e2 (st.trans st2) s2 xr⟩
/-- f(..) of an own def -/
def fCall (n : Nat) (g : List U → Sto → R U) (fa : FA) : FE := fA (fun us S => guard (us.length == n) (g us S)) fa
theorem se_call {k : Nat} {f : Addr} {fd : FuncData} {ps : List Str} {n : Nat} {g : List U → Sto → R U} {x : Str} {p pos : Pos} {e : Expr} {es : List Expr} {fa : FA}
    (F : FnOk X.prog X.w X.K X.mg X.base (L2.CX X.prog X.w) k f fd ps (spOf (KMof X) n g)) (hr : Room k X.A) (hx : PasX X Wx) (hg : Gl X x) (hm : X.mg x = some (.ref f)) (hk : PySem.W.keepIn X.K (.ref f) = true) (hb : Binds X.K fd ps []) (ha : SimA X Wx (e :: es) fa)
    (hdb : (x == ("__debug__" : Str)) = false := by decide) (he : starEach (e :: es) X.env = (false, eval e X.env) :: starEach es X.env := by rfl) (hpl : (backTo pos (starEach es X.env)).any (·.1) = false := by rfl) :
    SimE X Wx (.Call (.Name x p) (e :: es) [] pos) (fCall n g fa) := by
  obtain ⟨ta, pa, ha⟩ := ha.out
  exact SimE.mk (pe_callSD F hr hg hm hk hb .nil hx pa hdb he hpl) (fun w d σ Q s e h => call_core (k := k) (f := f) (fd := fd) (ps := ps) ha w d σ Q s e h)

/-! ### statements -/
/-- an exception of an expression leaves the statement -/
def toS {α : Type} (d : En) (r : R α) (k : α → Sto → R Fl) : R Fl := match r with
  | .ok a S => k a S
  | .exc x S => .ok (.ex x d) S
  | .bad => .bad
theorem toS_post {α : Type} {w : Wd} {d : En} {σ : L2.St} {D : Ends} {r : R α} {k : α → Sto → R Fl} (s : SR (KMof X) w) (e : ER (KMof X) w d σ) (h : Pst (toS d r k) (OkS X Wx w D) (fun _ _ => False)) :
    Pst r (fun a S => Pst (k a S) (OkS X Wx w D) (fun _ _ => False)) (XPost X Wx σ w) := by
  cases r with
  | ok a S => exact h
  | exc x S => exact fun w' cls dd eS st s' xr => h w' eS st s' σ (e.ext st.x s) cls dd xr
  | bad => exact h
variable {e : Expr} {st : Stmt} {rest : List Stmt} {pos : Pos}
def fNop : FS := fun d S => .ok (.nx d) S
def fExpr (f : FE) : FS := fun d S => toS d (f d S) fun _ S1 => .ok (.nx d) S1
def fRet (f : FE) : FS := fun d S => toS d (f d S) fun u S1 => .ok (.rt u) S1
def fRetN : FS := fun _ S => .ok (.rt .non) S
def fBrk : FS := fun d S => .ok (.bk d) S
def fCt : FS := fun d S => .ok (.ct d) S
theorem ss_pass : SimS X Wx (.Pass pos) fNop := SimS.mk ps_pass (fun w d σ D s e h => h w rfl (Stp.refl w) s σ e)
theorem ss_break : SimS X Wx (.Break pos) fBrk := SimS.mk ps_break (fun w d σ D s e h => h w rfl (Stp.refl w) s σ e)
theorem ss_continue : SimS X Wx (.Continue pos) fCt := SimS.mk ps_continue (fun w d σ D s e h => h w rfl (Stp.refl w) s σ e)
theorem ss_expr {f : FE} (he : SimE X Wx e f) (hs : swapsWith e none pos.line X.env = pure false := by rfl) : SimS X Wx (.Expr e pos) (fExpr f) := by
  obtain ⟨t, p, he⟩ := he.out
  refine SimS.mk (ps_expr p hs) (fun w d σ D s e h => ?_)
  exact he w d σ _ s e ((toS_post s e h).mono (fun u S1 h1 w1 v eS st s1 r => h1 w1 eS st s1 σ (e.ext st.x s)) fun _ _ q => q)
theorem ss_ret {f : FE} (he : SimE X Wx e f) : SimS X Wx (.Return (some e) pos) (fRet f) := by
  obtain ⟨t, p, he⟩ := he.out
  refine SimS.mk (ps_ret p) (fun w d σ D s e h => ?_)
  exact he w d σ _ s e ((toS_post s e h).mono (fun u S1 h1 w1 v eS st s1 r => h1 w1 eS st s1 v r) fun _ _ q => q)
theorem ss_retN : SimS X Wx (.Return none pos) fRetN := SimS.mk ps_retN (fun w d σ D s e h => h w rfl (Stp.refl w) s .non .non)
/-- name = e -/
def fSet (i : Nat) (f : FE) : FS := fun d S => toS d (f d S) fun u S1 => .ok (.nx (d.set i (some u))) S1
theorem ss_set (i : Nat) {x : Str} {f : FE} {pos' : Pos} (hN : X.N.Nodup) (hi : X.N[i]? = some x) (hx : Loc X.env.scope x) (he : SimE X Wx e f) (hs : swapsWith e (some (.Name x pos')) pos.line X.env = pure false := by rfl)
    (hf : X.fn x = true ∨ X.env.scope.names.lookup x = some .local := by first | exact .inl rfl | exact .inr rfl | assumption) : SimS X Wx (.Assign [.Name x pos'] e pos) (fSet i f) := by
  obtain ⟨t, p, he⟩ := he.out
  refine SimS.mk (ps_set hN hi hx p hs hf) (fun w d σ D s e h => ?_)
  exact he w d σ _ s e ((toS_post s e h).mono (fun u S1 h1 w1 v eS st s1 r => h1 w1 eS st s1 _ ((e.ext st.x s).set i r)) fun _ _ q => q)
/-! targets -/
def Keeps (is : List Nat) (σ σ' : L2.St) : Prop := ∀ vs : List Nat, (∀ i ∈ is, i ∈ vs) → wipe σ' vs = wipe σ vs
def tG (X : Cx) (is : List Nat) (g : U → En → Option En) : TG := fun v σ H Q => ∃ (w : Wd) (u : U) (d d' : En), w.H = H ∧ SR (KMof X) w ∧ ER (KMof X) w d σ ∧ VR (KMof X) w u v ∧ g u d = some d' ∧ ∀ σ', ER (KMof X) w d' σ' → Keeps is σ σ' → Q σ' w.H
def tGs (X : Cx) (is : List Nat) (g : List U → En → Option En) : TGs := fun vs σ H Q => ∃ (w : Wd) (us : List U) (d d' : En), w.H = H ∧ SR (KMof X) w ∧ ER (KMof X) w d σ ∧ VRs (KMof X) w us vs ∧ g us d = some d' ∧ ∀ σ', ER (KMof X) w d' σ' → Keeps is σ σ' → Q σ' w.H
/-- a target: what it does, the slots that it stores -/
def SimG (X : Cx) (tg : Expr) (is : List Nat) (g : U → En → Option En) : Prop := PG X tg (tG X is g)
def SimGs (X : Cx) (tgs : List Expr) (is : List Nat) (g : List U → En → Option En) : Prop := PGs X tgs (tGs X is g)
theorem SimG.out {tg : Expr} {is : List Nat} {g : U → En → Option En} (h : SimG X tg is g) : ∃ t, PG X tg t ∧ ∀ (w : Wd) (u : U) (v : V) (d d' : En) (σ : L2.St) (Q : L2.St → Hp → Prop), SR (KMof X) w → ER (KMof X) w d σ → VR (KMof X) w u v → g u d = some d' → (∀ σ', ER (KMof X) w d' σ' → Keeps is σ σ' → Q σ' w.H) → t v σ w.H Q :=
  ⟨_, h, fun w u v d d' σ Q s e r h q => ⟨w, u, d, d', rfl, s, e, r, h, q⟩⟩
theorem SimG.mk {tg : Expr} {is : List Nat} {g : U → En → Option En} {t : TG} (p : PG X tg t) (h : ∀ (w : Wd) (u : U) (v : V) (d d' : En) (σ : L2.St) (Q : L2.St → Hp → Prop), SR (KMof X) w → ER (KMof X) w d σ → VR (KMof X) w u v → g u d = some d' → (∀ σ', ER (KMof X) w d' σ' → Keeps is σ σ' → Q σ' w.H) → t v σ w.H Q) : SimG X tg is g :=
  ⟨fun pins s σ H v u Q I r ⟨w, y, d, d', e, sr, er, vr, hg, q⟩ => p.run pins s σ H v u Q I r (by subst e; exact h w y v d d' σ Q sr er vr hg q)⟩
theorem SimGs.out {tgs : List Expr} {is : List Nat} {g : List U → En → Option En} (h : SimGs X tgs is g) : ∃ t, PGs X tgs t ∧ ∀ (w : Wd) (us : List U) (vs : List V) (d d' : En) (σ : L2.St) (Q : L2.St → Hp → Prop), SR (KMof X) w → ER (KMof X) w d σ → VRs (KMof X) w us vs → g us d = some d' → (∀ σ', ER (KMof X) w d' σ' → Keeps is σ σ' → Q σ' w.H) → t vs σ w.H Q :=
  ⟨_, h, fun w u v d d' σ Q s e r h q => ⟨w, u, d, d', rfl, s, e, r, h, q⟩⟩
theorem SimGs.mk {tgs : List Expr} {is : List Nat} {g : List U → En → Option En} {t : TGs} (p : PGs X tgs t) (h : ∀ (w : Wd) (us : List U) (vs : List V) (d d' : En) (σ : L2.St) (Q : L2.St → Hp → Prop), SR (KMof X) w → ER (KMof X) w d σ → VRs (KMof X) w us vs → g us d = some d' → (∀ σ', ER (KMof X) w d' σ' → Keeps is σ σ' → Q σ' w.H) → t vs σ w.H Q) : SimGs X tgs is g :=
  ⟨fun pins s σ H vs us Q I r ⟨w, y, d, d', e, sr, er, vr, hg, q⟩ => p.run pins s σ H vs us Q I r (by subst e; exact h w y vs d d' σ Q sr er vr hg q)⟩
theorem wipe_get (σ : L2.St) : ∀ (vs : List Nat) (j : Nat), (wipe σ vs)[j]? = if j ∈ vs then (if j < σ.length then some none else none) else σ[j]?
  | [], j => by simp [wipe]
  | v :: vs, j => by
    unfold wipe
    by_cases e : v = j
    · subst e
      by_cases hl : v < σ.length
      · rw [List.getElem?_set_self (by rw [wipe_length]; exact hl)]; simp [hl]
      · rw [List.getElem?_eq_none (by rw [List.length_set, wipe_length]; omega)]; simp [hl]
    · rw [List.getElem?_set_ne e, wipe_get σ vs j]
      have : (j ∈ v :: vs) ↔ j ∈ vs := by simp [Ne.symm e]
      simp only [this]
theorem keeps_set {σ : L2.St} (i : Nat) (o : Option V) : Keeps [i] σ (σ.set i o) := fun vs h => by
  refine List.ext_getElem? fun j => ?_
  rw [wipe_get, wipe_get, List.length_set]
  by_cases hj : j ∈ vs
  · rw [if_pos hj, if_pos hj]
  · rw [if_neg hj, if_neg hj, List.getElem?_set_ne fun e => hj (by rw [← e]; exact h i (by simp))]
theorem Keeps.refl (σ : L2.St) : Keeps [] σ σ := fun _ _ => rfl
theorem Keeps.trans {is js : List Nat} {σ σ1 σ2 : L2.St} (a : Keeps is σ σ1) (b : Keeps js σ1 σ2) : Keeps (is ++ js) σ σ2 := fun vs h =>
  (b vs fun i hi => h i (List.mem_append_right _ hi)).trans (a vs fun i hi => h i (List.mem_append_left _ hi))
def gN (i : Nat) (u : U) (d : En) : Option En := some (d.set i (some u))
def gNil (us : List U) (d : En) : Option En := match us with
  | [] => some d
  | _ => none
def gCons (g : U → En → Option En) (r : List U → En → Option En) (us : List U) (d : En) : Option En := match us with
  | u :: us => (g u d).bind (r us)
  | [] => none
def gTup (n : Nat) (r : List U → En → Option En) (u : U) (d : En) : Option En := match u with
  | .tup us => if us.length = n then r us d else none
  | _ => none
theorem sg_name (i : Nat) {x : Str} (hN : X.N.Nodup) (hi : X.N[i]? = some x) (hx : Loc X.env.scope x) (hf : X.fn x = true ∨ X.env.scope.names.lookup x = some .local := by first | exact .inl rfl | exact .inr rfl | assumption) : SimG X (.Name x pos) [i] (gN i) :=
  SimG.mk (pg_name hN hi hx hf) fun w u v d d' σ Q s e r h q => by cases h; exact q _ (e.set i r) (keeps_set i _)
theorem sg_nil : SimGs X [] [] gNil := SimGs.mk pgs_nil fun w us vs d d' σ Q s e r h q => by
  cases r with
  | nil => cases h; exact ⟨rfl, q σ e (Keeps.refl σ)⟩
  | cons _ _ => cases h
theorem sg_cons {es : List Expr} {is js : List Nat} {g : U → En → Option En} {r : List U → En → Option En} (h1 : SimG X e is g) (h2 : SimGs X es js r) (hs : (assignEach (e :: es) X.env).map (·.2) = assign e X.env :: (assignEach es X.env).map (·.2) := by rfl) : SimGs X (e :: es) (is ++ js) (gCons g r) := by
  obtain ⟨t, p, h1⟩ := h1.out
  obtain ⟨u, q, h2⟩ := h2.out
  refine SimGs.mk (pgs_cons p q hs) fun w us vs d d' σ Q s e rs h k => ?_
  cases rs with
  | nil => cases h
  | @cons y ys v vs ry rys =>
    unfold gCons at h
    dsimp only at h
    cases h3 : g y d with
    | none => rw [h3] at h; cases h
    | some d1 =>
      rw [h3] at h
      exact ⟨v, vs, rfl, h1 w y v d d1 σ _ s e ry h3 fun σ1 e1 k1 => h2 w ys vs d1 d' σ1 Q s e1 rys h fun σ2 e2 k2 => k σ2 e2 (k1.trans k2)⟩
theorem sg_tup {es : List Expr} {k : Nat} {n : Nat} {is : List Nat} {r : List U → En → Option En} (hc : X.calm = true) (h : SimGs X es is r)
    (hn : (assignEach es X.env).length = n := by rfl) (hst : (assignEach es X.env).findIdx? (·.1) = none := by rfl) : SimG X (.Tuple es k pos) is (gTup n r) := by
  obtain ⟨t, p, h⟩ := h.out
  refine SimG.mk (pg_tup hc p hn hst) fun w u v d d' σ Q s e rv hg q => ?_
  unfold gTup at hg
  split at hg
  · split at hg
    · rename_i us hl
      cases rv with
      | tup hq rs => exact ⟨_, _, rfl, hq.sq, by rw [← rs.length]; exact hl, h w us _ d d' σ Q s e rs hg q⟩
    · cases hg
  · cases hg
def fAsg (g : U → En → Option En) (f : FE) : FS := fun d S => toS d (f d S) fun u S1 => match g u d with
  | some d' => .ok (.nx d') S1
  | none => .bad
theorem ss_asg {tg : Expr} {f : FE} {is : List Nat} {g : U → En → Option En} (he : SimE X Wx e f) (hg : SimG X tg is g) (hs : swapsWithSole [tg] e pos.line X.env = pure false := by rfl) (hw : swappedStores [tg] e X.env = pure none := by rfl)
    (h1 : (assignEach [tg] X.env).map (·.2) = [assign tg X.env] := by rfl) : SimS X Wx (.Assign [tg] e pos) (fAsg g f) := by
  obtain ⟨t, p, he⟩ := he.out
  obtain ⟨u, q, hg⟩ := hg.out
  refine SimS.mk (ps_asg p q hs hw h1) (fun w d σ D s e h => ?_)
  refine he w d σ _ s e ((toS_post s e h).mono (fun y S1 k1 w1 v eS st s1 r => ?_) fun _ _ q => q)
  split at k1
  · rename_i d' hd
    exact hg w1 y v d d' σ D.nx s1 (e.ext st.x s) r hd fun σ' e' _ => k1 w1 eS st s1 σ' e'
  · exact k1.elim
/-- x, y = a, b -/
def fPar (i j : Nat) (fa : FA) : FS := fun d S => toS d (fa d S) fun us S1 => match us with
  | [u, v] => .ok (.nx ((d.set i (some u)).set j (some v))) S1
  | _ => .bad
theorem ss_par (i j : Nat) {x y : Str} {a b : Expr} {fa : FA} {px py pt : Pos} {kt k2 pt2} (hc : X.calm = true) (hN : X.N.Nodup) (hi : X.N[i]? = some x) (hj : X.N[j]? = some y) (hij : i ≠ j)
    (hx : X.env.scope.names.lookup x = some .local) (hy : X.env.scope.names.lookup y = some .local) (ha : SimA X Wx [a, b] fa)
    (hw : swappedStores [.Tuple [.Name x px, .Name y py] kt pt] (.Tuple [a, b] k2 pt2) X.env = pure (some [x, y]))
    (hs : swapsWithSole [.Tuple [.Name x px, .Name y py] kt pt] (.Tuple [a, b] k2 pt2) pos.line X.env = pure false := by rfl) :
    SimS X Wx (.Assign [.Tuple [.Name x px, .Name y py] kt pt] (.Tuple [a, b] k2 pt2) pos) (fPar i j fa) := by
  obtain ⟨t, p, ha⟩ := ha.out
  refine SimS.mk (ps_par hc hN hi hj hij hx hy p hw hs) (fun w d σ D s e h => ?_)
  refine ha w d σ _ s e ((toS_post s e h).mono (fun us S1 k1 w1 vs eS st s1 rs => ?_) fun _ _ q => q)
  split at k1
  · cases rs with
    | cons r1 rs =>
      cases rs with
      | cons r2 rs =>
        cases rs
        exact ⟨_, _, rfl, k1 w1 eS st s1 _ (((e.ext st.x s).set i r1).set j r2)⟩
  · exact k1.elim
/-! blocks, if -/
def fSeq (f g : FS) : FS := fun d S => match f d S with
  | .ok (.nx d1) S1 => g d1 S1
  | r => r
theorem sb_nil : SimB X Wx [] fNop := SimB.mk pss_nil (fun w d σ D s e h => h w rfl (Stp.refl w) s σ e)
theorem sb_one {f : FS} (h : SimS X Wx st f) : SimB X Wx [st] f := by
  obtain ⟨t, p, h⟩ := h.out
  exact SimB.mk (pss_one p) h
theorem sb_cons {f g : FS} (h1 : SimS X Wx st f) (h2 : SimB X Wx rest g) : SimB X Wx (st :: rest) (fSeq f g) := by
  obtain ⟨t, p, h1⟩ := h1.out
  obtain ⟨u, q, h2⟩ := h2.out
  refine SimB.mk (pss_cons p q) (fun w d σ D s e h => h1 w d σ _ s e ?_)
  unfold fSeq at h
  cases hf : f d w.S with
  | ok fl S1 =>
    rw [hf] at h
    cases fl with
    | nx d1 =>
      intro w1 eS st s1 σ1 e1
      subst eS
      exact h2 w1 d1 σ1 D s1 e1 (Pst.mono h (fun _ _ q => q.up st) fun _ _ q => q)
    | rt u => exact h
    | bk d1 => exact h
    | ct d1 => exact h
    | ex x d1 => exact h
  | exc x S => rw [hf] at h; exact h
  | bad => rw [hf] at h; exact h
def fIfS (c : FT) (f g : FS) : FS := fun d S => toS d (c d S) fun b S1 => if b then f d S1 else g d S1
theorem ss_if {c : Expr} {a b : List Stmt} {fc : FT} {f g : FS} (hc : SimT X Wx c fc) (ha : SimB X Wx a f) (hb : SimB X Wx b g) : SimS X Wx (.If c a b pos) (fIfS fc f g) := by
  obtain ⟨tc, pc, hc⟩ := hc.out
  obtain ⟨ta, pa, ha⟩ := ha.out
  obtain ⟨tb, pb, hb⟩ := hb.out
  refine SimS.mk (ps_if pc pa pb) (fun w d σ D s e h => ?_)
  refine hc w d σ _ s e ((toS_post s e h).mono (fun k S1 h1 w1 eS st s1 => ?_) fun _ _ q => q)
  subst eS
  cases k with
  | true => exact ha w1 d σ D s1 (e.ext st.x s) (Pst.mono h1 (fun _ _ q => q.up st) fun _ _ q => q)
  | false => exact hb w1 d σ D s1 (e.ext st.x s) (Pst.mono h1 (fun _ _ q => q.up st) fun _ _ q => q)

/-! ### what is walked -/
def ItSim (K : KM) (w : Wd) (J : It) (us : List U) : Prop := ∀ (w' : Wd) (i : Nat), Ext w w' → SR K w' →
  (∀ u, us[i]? = some u → J.go i w'.H ∧ ∀ x H', J.yld i w'.H x H' → ∃ w'' : Wd, w''.H = H' ∧ w''.S = w'.S ∧ Stp w' w'' ∧ SR K w'' ∧ VR K w'' u x) ∧ (us.length ≤ i → J.stop i w'.H)
def OkI (X : Cx) (w : Wd) (Q : It → Hp → Prop) (us : List U) (S' : Sto) : Prop := ∀ (w' : Wd) (J : It), w'.S = S' → Stp w w' → SR (KMof X) w' → ItSim (KMof X) w' J us → Q J w'.H
def SimI (X : Cx) (Wx : WX) (tg iter : Expr) (f : FA) : Prop := ∃ t, PI X tg iter t ∧ ∀ (w : Wd) (d : En) (σ : L2.St) (Q : It → Hp → Prop), SR (KMof X) w → ER (KMof X) w d σ → Pst (f d w.S) (OkI X w Q) (XPost X Wx σ w) → t σ w.H Q
theorem ItSim.same {K : KM} {w : Wd} {J : It} {us : List U} (h : ∀ (w' : Wd) (i : Nat), Ext w w' → SR K w' → (∀ u, us[i]? = some u → J.go i w'.H ∧ ∀ x H', J.yld i w'.H x H' → H' = w'.H ∧ VR K w' u x) ∧ (us.length ≤ i → J.stop i w'.H)) : ItSim K w J us := fun w' i x s => by
  obtain ⟨h1, h2⟩ := h w' i x s
  refine ⟨fun u hu => ?_, h2⟩
  obtain ⟨h3, h4⟩ := h1 u hu
  refine ⟨h3, fun y H' q => ?_⟩
  obtain ⟨e, r⟩ := h4 y H' q
  exact ⟨w', e.symm, rfl, Stp.refl w', s, r⟩
variable {tg iter : Expr}
def aOver (p : U → Option (List U)) (f : FE) : FA := fun d S => (f d S).bind fun u S1 => match p u with
  | some us => .ok us S1
  | none => .bad
/-- lists that nobody changes -/
def lstV : U → Option (List U)
  | .lst us => some us
  | .frz us => some us
  | _ => none
def tupV : U → Option (List U)
  | .tup us => some us
  | _ => none
def strV : U → Option (List U)
  | .str z => some (z.cps.toList.map fun c => .str ⟨#[c]⟩)
  | _ => none
theorem lstV_ok {K : KM} {w : Wd} {u : U} {v : V} {us : List U} (r : VR K w u v) (h : lstV u = some us) : ∃ a, v = .ref a ∧ ∀ w', Ext w w' → SR K w → ∃ xs, SqL K w'.H a xs ∧ VRs K w' us xs := by
  cases r with
  | @lst a xs _ hq n rs => cases h; exact ⟨a, rfl, fun w' x s => ⟨xs, SqL.of (x.keep _ _ hq n), rs.ext x s⟩⟩
  | @frz a xs _ hq rs => cases h; exact ⟨a, rfl, fun w' x s => ⟨xs, (x.fz s hq).sq, rs.ext x s⟩⟩
  | _ => cases h
theorem sqL_same {K : PySem.W.Frag} {H : Hp} {a : Addr} {xs : List V} {i : Nat} {x : V} (hq : SqL K H a xs) (y : ∀ ys, SqL K H a ys → ys[i]? = some x) : xs[i]? = some x := y xs hq
theorem si_list {f : FE} (h : SimE X Wx iter f) : SimI X Wx tg iter (aOver lstV f) := by
  obtain ⟨t, p, h⟩ := h.out
  refine ⟨_, pi_list p, fun w d σ Q s e h0 => ?_⟩
  refine h w d σ _ s e ((Pst.of_bind h0).mono (fun u S1 h1 w1 v eS st s1 r => ?_) fun _ _ q => q)
  split at h1
  · rename_i us hu
    obtain ⟨a, rfl, hk⟩ := lstV_ok r hu
    obtain ⟨xs, hq, rs⟩ := hk w1 (Ext.refl w1) s1
    refine ⟨a, rfl, ⟨xs, hq⟩, h1 w1 _ eS st s1 (ItSim.same fun w' i x s' => ?_)⟩
    obtain ⟨ys, hq', rs'⟩ := hk w' x s1
    refine ⟨fun u hi => ?_, fun hi => ⟨ys, hq', by rw [← rs'.length]; exact hi⟩⟩
    obtain ⟨y, hy, ry⟩ := rs'.get hi
    refine ⟨⟨ys, y, hq', hy⟩, fun z H' q => ⟨q.1, ?_⟩⟩
    have e2 := q.2 ys hq'
    rw [hy] at e2
    cases e2
    exact ry
  · exact h1.elim
theorem si_tup {f : FE} (h : SimE X Wx iter f) : SimI X Wx tg iter (aOver tupV f) := by
  obtain ⟨t, p, h⟩ := h.out
  refine ⟨_, pi_tup p, fun w d σ Q s e h0 => ?_⟩
  refine h w d σ _ s e ((Pst.of_bind h0).mono (fun u S1 h1 w1 v eS st s1 r => ?_) fun _ _ q => q)
  cases r with
  | @tup a xs us hq rs =>
    refine ⟨a, rfl, ⟨xs, hq.sq⟩, h1 w1 _ eS st s1 (ItSim.same fun w' i x s' => ?_)⟩
    have hq' := (x.sqT s1 hq).sq
    have rs' := rs.ext x s1
    refine ⟨fun u hi => ?_, fun hi => ⟨xs, hq', by rw [← rs'.length]; exact hi⟩⟩
    obtain ⟨y, hy, ry⟩ := rs'.get hi
    refine ⟨⟨xs, y, hq', hy⟩, fun z H' q => ⟨q.1, ?_⟩⟩
    have e2 := q.2 xs hq'
    rw [hy] at e2
    cases e2
    exact ry
  | _ => exact h1.elim
theorem si_str {f : FE} (h : SimE X Wx iter f) : SimI X Wx tg iter (aOver strV f) := by
  obtain ⟨t, p, h⟩ := h.out
  refine ⟨_, pi_str p, fun w d σ Q s e h0 => ?_⟩
  refine h w d σ _ s e ((Pst.of_bind h0).mono (fun u S1 h1 w1 v eS st s1 r => ?_) fun _ _ q => q)
  cases r with
  | str z =>
    refine ⟨z, rfl, h1 w1 _ eS st s1 (ItSim.same fun w' i x s' => ?_)⟩
    refine ⟨fun u hi => ?_, fun hi => ?_⟩
    · rw [List.getElem?_map] at hi
      cases hc : z.cps.toList[i]? with
      | none => rw [hc] at hi; cases hi
      | some c =>
        rw [hc] at hi
        cases hi
        have hlt : i < z.cps.size := by
          have := (List.getElem?_eq_some_iff.mp hc).1
          simpa using this
        refine ⟨hlt, fun y H' q => ?_⟩
        obtain ⟨e1, c', e2, e3⟩ := q
        refine ⟨e1, ?_⟩
        have e4 : z.cps[i]? = some c := by rw [← Array.getElem?_toList]; exact hc
        rw [e4] at e2
        cases e2
        rw [e3]
        exact .str _
    · show z.cps.size ≤ i
      simpa using hi
  | _ => exact h1.elim
def rngU (lo c : Int) (n : Nat) : List U := (List.range n).map fun (i : Nat) => U.int (lo + (i : Int) * c)
def aRng1 (fa : FA) : FA := fun d S => (fa d S).bind fun us S1 => match us with
  | [.int j] => guard (decide (-(2 ^ 62) ≤ j) && decide (j < 2 ^ 62)) (.ok (rngU 0 1 j.toNat) S1)
  | _ => .bad
def aRng2 (fa : FA) : FA := fun d S => (fa d S).bind fun us S1 => match us with
  | [.int i, .int j] => guard (decide (-(2 ^ 62) ≤ i) && decide (i < 2 ^ 62) && decide (-(2 ^ 62) ≤ j) && decide (j < 2 ^ 62)) (.ok (rngU i 1 (j - i).toNat) S1)
  | _ => .bad
def rngN (i j c : Int) : Nat := (Builtin.Range.rangeSize i j c).toNat
def aRng3 (fa : FA) : FA := fun d S => (fa d S).bind fun us S1 => match us with
  | [.int i, .int j, .int c] => guard (decide (c ≠ 0) && decide (c.natAbs < 1073741824) && Builtin.Range.small i j c && decide (0 ≤ Builtin.Range.rangeSize i j c)) (.ok (rngU i c (rngN i j c)) S1)
  | _ => .bad
theorem rng_get {lo c : Int} {n i : Nat} {u : U} (h : (rngU lo c n)[i]? = some u) : i < n ∧ u = .int (lo + (i : Int) * c) := by
  unfold rngU at h
  rw [List.getElem?_map] at h
  cases hr : (List.range n)[i]? with
  | none => rw [hr] at h; cases h
  | some k =>
    rw [hr] at h
    cases h
    obtain ⟨h1, h2⟩ := List.getElem?_eq_some_iff.mp hr
    rw [List.getElem_range] at h2
    subst h2
    exact ⟨by simpa using h1, rfl⟩
theorem it_range {K : KM} {w : Wd} (lo : Int) (n : Nat) : ItSim K w (Itr lo n) (rngU lo 1 n) := ItSim.same fun w' i x s => by
  refine ⟨fun u hu => ?_, fun h => (show n ≤ i by simpa [rngU] using h)⟩
  obtain ⟨h1, rfl⟩ := rng_get hu
  refine ⟨h1, fun y H' q => ⟨q.1, ?_⟩⟩
  rw [q.2, Int.mul_one]
  exact .int _
theorem it_rangeC {K : KM} {w : Wd} (lo c : Int) (n : Nat) : ItSim K w (Itc lo c n) (rngU lo c n) := ItSim.same fun w' i x s => by
  refine ⟨fun u hu => ?_, fun h => (show n ≤ i by simpa [rngU] using h)⟩
  obtain ⟨h1, rfl⟩ := rng_get hu
  refine ⟨h1, fun y H' q => ⟨q.1, ?_⟩⟩
  rw [q.2]
  exact .int _
theorem si_range1 {a : Expr} {fa : FA} {p pos : Pos} (hg : Gl X "range") (hm : X.mg "range" = none) (ha : SimA X Wx [a] fa) (hs : starEach [a] X.env = [(false, eval a X.env)] := by rfl) : SimI X Wx tg (.Call (.Name "range" p) [a] [] pos) (aRng1 fa) := by
  obtain ⟨t, p, ha⟩ := ha.out
  refine ⟨_, pi_range1 hg hm p hs, fun w d σ Q s e h0 => ?_⟩
  refine ha w d σ _ s e ((Pst.of_bind h0).mono (fun us S1 h1 w1 vs eS st s1 rs => ?_) fun _ _ q => q)
  split at h1
  · obtain ⟨hl, h1⟩ := guard_post h1
    rw [Bool.and_eq_true] at hl
    cases rs with
    | cons r rs =>
      cases rs; cases r
      exact ⟨_, rfl, of_decide_eq_true hl.1, of_decide_eq_true hl.2, h1 w1 _ eS st s1 (it_range 0 _)⟩
  · exact h1.elim
theorem si_range2 {a b : Expr} {fa : FA} {p pos : Pos} (hg : Gl X "range") (hm : X.mg "range" = none) (ha : SimA X Wx [a, b] fa) (hs : starEach [a, b] X.env = [(false, eval a X.env), (false, eval b X.env)] := by rfl) (hs2 : starEach [b] X.env = [(false, eval b X.env)] := by rfl) :
    SimI X Wx tg (.Call (.Name "range" p) [a, b] [] pos) (aRng2 fa) := by
  obtain ⟨t, p, ha⟩ := ha.out
  refine ⟨_, pi_range2 hg hm p hs hs2, fun w d σ Q s e h0 => ?_⟩
  refine ha w d σ _ s e ((Pst.of_bind h0).mono (fun us S1 h1 w1 vs eS st s1 rs => ?_) fun _ _ q => q)
  split at h1
  · obtain ⟨hl, h1⟩ := guard_post h1
    simp only [Bool.and_eq_true, decide_eq_true_eq] at hl
    cases rs with
    | cons r rs =>
      cases rs with
      | cons r2 rs =>
        cases rs; cases r; cases r2
        exact ⟨_, _, rfl, ⟨hl.1.1.1, hl.1.1.2, hl.1.2, hl.2⟩, h1 w1 _ eS st s1 (it_range _ _)⟩
  · exact h1.elim
theorem si_range3 {a b c : Expr} {fa : FA} {p pos : Pos} (hg : Gl X "range") (hm : X.mg "range" = none) (ha : SimA X Wx [a, b, c] fa)
    (hs : starEach [a, b, c] X.env = (false, eval a X.env) :: starEach [b, c] X.env := by rfl) (hpl : (backTo pos (starEach [b, c] X.env)).any (·.1) = false := by rfl) :
    SimI X Wx tg (.Call (.Name "range" p) [a, b, c] [] pos) (aRng3 fa) := by
  obtain ⟨t, p, ha⟩ := ha.out
  refine ⟨_, pi_range3 hg hm p hs hpl, fun w d σ Q s e h0 => ?_⟩
  refine ha w d σ _ s e ((Pst.of_bind h0).mono (fun us S1 h1 w1 vs eS st s1 rs => ?_) fun _ _ q => q)
  split at h1
  · obtain ⟨hl, h1⟩ := guard_post h1
    simp only [Bool.and_eq_true, decide_eq_true_eq] at hl
    cases rs with
    | cons r rs =>
      cases rs with
      | cons r2 rs =>
        cases rs with
        | cons r3 rs =>
          cases rs; cases r; cases r2; cases r3
          refine ⟨_, _, _, rngN _ _ _, rfl, ⟨hl.1.1.1, hl.1.1.2, hl.1.2, ?_⟩, h1 w1 _ eS st s1 (it_rangeC _ _ _)⟩
          unfold rngN
          rw [Int.toNat_of_nonneg hl.2]
  · exact h1.elim
end
end DL

set_option Elab.async false
set_option linter.all false
set_option maxRecDepth 100000
namespace DL
open PySem PySem.Spec L2
section
variable {X : Cx} {Wx : WX} {pos : Pos} {tg iter elt c : Expr} {body : List Stmt}

/-! ### for -/
def loopF (g : U → En → Option En) (f : FS) : List U → FS
  | [], d, S => .ok (.nx d) S
  | u :: us, d, S => match g u d with
    | none => .bad
    | some d1 => match f d1 S with
      | .ok (.nx d2) S1 => loopF g f us d2 S1
      | .ok (.ct d2) S1 => loopF g f us d2 S1
      | .ok (.bk d2) S1 => .ok (.nx d2) S1
      | r => r
def fFor (fi : FA) (g : U → En → Option En) (f : FS) : FS := fun d S => toS d (fi d S) fun us S1 => loopF g f us d S1
theorem drop_at {us : List U} {i : Nat} (h : i < us.length) : us.drop i = us[i] :: us.drop (i + 1) := List.drop_eq_getElem_cons h
theorem ss_for {fi : FA} {is : List Nat} {g : U → En → Option En} {f : FS} (hp : PassesOwn (model X.prog X.w) X.A X.env X.xe) (hc : X.calm = true) (hi : SimI X Wx tg iter fi) (hg : SimG X tg is g) (hb : SimB X Wx body f)
    (hs : ∀ x, foldedSetIterable iter X.env x = pure x := by intro _; rfl) : SimS X Wx (.For tg iter body [] pos) (fFor fi g f) := by
  obtain ⟨ti, pi, hi⟩ := hi
  obtain ⟨tg', pg, hg⟩ := hg.out
  obtain ⟨tb, pb, hb⟩ := hb.out
  refine SimS.mk (ps_for hp hc pi pg pb hs) (fun w d σ D s e h => ?_)
  refine hi w d σ _ s e ((toS_post s e h).mono (fun us S1 h1 w1 J eS st s1 it => ?_) fun _ _ q => q)
  subst eS
  refine ⟨fun i m σ' H => ∃ (w' : Wd) (d' : En), w'.H = H ∧ Stp w1 w' ∧ SR (KMof X) w' ∧ ER (KMof X) w' d' σ' ∧ m = us.length - i ∧ i ≤ us.length ∧ Pst (loopF g f (us.drop i) d' w'.S) (OkS X Wx w D) (fun _ _ => False),
    ⟨us.length, w1, d, rfl, Stp.refl w1, s1, e.ext st.x s, by simp, Nat.zero_le _, h1⟩, ?_⟩
  rintro i m σ' H ⟨w', d', rfl, st', s', e', rfl, hil, q⟩
  obtain ⟨it1, it2⟩ := it w' i st'.x s'
  by_cases hlt : i < us.length
  · rw [drop_at hlt] at q
    obtain ⟨go, yl⟩ := it1 us[i] (List.getElem?_eq_getElem hlt)
    refine .inr ⟨go, fun σ2 H2 => ∃ (w2 : Wd) (d2 : En), w2.H = H2 ∧ Stp w1 w2 ∧ SR (KMof X) w2 ∧ ER (KMof X) w2 d2 σ2 ∧ Pst (loopF g f (us.drop (i + 1)) d2 w2.S) (OkS X Wx w D) (fun _ _ => False), fun σ2 H2 ⟨w2, d2, e1, e2, e3, e4, e5⟩ => ⟨us.length - (i + 1), by omega, w2, d2, e1, e2, e3, e4, rfl, hlt, e5⟩, fun x H' y => ?_⟩
    obtain ⟨w2, rfl, eS2, st2, s2, rx⟩ := yl x H' y
    rw [← eS2] at q
    unfold loopF at q
    split at q
    · exact q.elim
    · rename_i d1 hd1
      refine hg w2 us[i] x d' d1 σ' _ s2 (e'.ext st2.x s') rx hd1 fun σ1 e1 _ => ?_
      refine hb w2 d1 σ1 _ s2 e1 ?_
      have st02 := st.trans (st'.trans st2)
      split at q
      · rename_i d2 S2 hf
        rw [hf]
        exact fun w3 eS3 st3 s3 σ3 e3 => ⟨w3, d2, rfl, (st'.trans st2).trans st3, s3, e3, by rw [eS3]; exact q⟩
      · rename_i d2 S2 hf
        rw [hf]
        exact fun w3 eS3 st3 s3 σ3 e3 => ⟨w3, d2, rfl, (st'.trans st2).trans st3, s3, e3, by rw [eS3]; exact q⟩
      · rename_i d2 S2 hf
        rw [hf]
        exact fun w3 eS3 st3 s3 σ3 e3 => q w3 eS3 (st02.trans st3) s3 σ3 e3
      · rename_i hn1 hn2 hn3
        cases hf : f d1 w2.S with
        | ok fl S2 =>
          rw [hf] at q
          cases fl with
          | nx d2 => exact absurd hf (hn1 d2 S2)
          | ct d2 => exact absurd hf (hn2 d2 S2)
          | bk d2 => exact absurd hf (hn3 d2 S2)
          | rt u => exact fun w3 eS3 st3 s3 v r => q w3 eS3 (st02.trans st3) s3 v r
          | ex x d2 => exact fun w3 eS3 st3 s3 σ3 e3 cls dd xr => q w3 eS3 (st02.trans st3) s3 σ3 e3 cls dd xr
        | exc x S => rw [hf] at q; exact q
        | bad => rw [hf] at q; exact q
  · have e0 : i = us.length := by omega
    subst e0
    rw [List.drop_length] at q
    exact .inl ⟨it2 (Nat.le_refl _), q w' rfl (st.trans st') s' σ' e'⟩

/-! ### while -/
def whileF (fc : FT) (f : FS) : Nat → FS
  | 0, _, _ => .bad
  | n + 1, d, S => toS d (fc d S) fun b S1 => if b then
      match f d S1 with
      | .ok (.nx d2) S2 => whileF fc f n d2 S2
      | .ok (.ct d2) S2 => whileF fc f n d2 S2
      | .ok (.bk d2) S2 => .ok (.nx d2) S2
      | r => r
    else .ok (.nx d) S1
theorem ss_while (n : Nat) {fc : FT} {f : FS} (hp : PassesOwn (model X.prog X.w) X.A X.env X.xe) (hc : SimT X Wx c fc) (hb : SimB X Wx body f) : SimS X Wx (.While c body [] pos) (whileF fc f n) := by
  obtain ⟨tc, pc, hc⟩ := hc.out
  obtain ⟨tb, pb, hb⟩ := hb.out
  refine SimS.mk (ps_while hp pc pb) (fun w d σ D s e h => ?_)
  refine ⟨fun m σ' H => ∃ (w' : Wd) (d' : En), w'.H = H ∧ SR (KMof X) w' ∧ ER (KMof X) w' d' σ' ∧ Pst (whileF fc f m d' w'.S) (OkS X Wx w' D) (fun _ _ => False), ⟨n, w, d, rfl, s, e, h⟩, ?_⟩
  rintro m σ' H ⟨w', d', rfl, s', e', q⟩
  cases m with
  | zero => exact q.elim
  | succ m =>
    unfold whileF at q
    refine hc w' d' σ' _ s' e' ((toS_post s' e' q).mono (fun b S1 h1 w1 eS st1 s1 => ?_) fun _ _ z => z)
    subst eS
    cases b with
    | false => exact h1 w1 rfl st1 s1 σ' (e'.ext st1.x s')
    | true =>
      refine ⟨fun σ2 H2 => ∃ (w2 : Wd) (d2 : En), w2.H = H2 ∧ SR (KMof X) w2 ∧ ER (KMof X) w2 d2 σ2 ∧ Pst (whileF fc f m d2 w2.S) (OkS X Wx w2 D) (fun _ _ => False), fun σ2 H2 z => ⟨m, Nat.lt_succ_self m, z⟩, ?_⟩
      refine hb w1 d' σ' _ s1 (e'.ext st1.x s') ?_
      have h1 : Pst (match f d' w1.S with
          | .ok (.nx d2) S2 => whileF fc f m d2 S2
          | .ok (.ct d2) S2 => whileF fc f m d2 S2
          | .ok (.bk d2) S2 => .ok (.nx d2) S2
          | r => r) (OkS X Wx w' D) (fun _ _ => False) := h1
      split at h1
      · rename_i d2 S2 hf
        rw [hf]
        exact fun w3 eS3 st3 s3 σ3 e3 => ⟨w3, d2, rfl, s3, e3, by rw [eS3]; exact Pst.mono h1 (fun _ _ z => z.up (st1.trans st3)) fun _ _ z => z⟩
      · rename_i d2 S2 hf
        rw [hf]
        exact fun w3 eS3 st3 s3 σ3 e3 => ⟨w3, d2, rfl, s3, e3, by rw [eS3]; exact Pst.mono h1 (fun _ _ z => z.up (st1.trans st3)) fun _ _ z => z⟩
      · rename_i d2 S2 hf
        rw [hf]
        exact fun w3 eS3 st3 s3 σ3 e3 => h1 w3 eS3 (st1.trans st3) s3 σ3 e3
      · rename_i hn1 hn2 hn3
        cases hf : f d' w1.S with
        | ok fl S2 =>
          rw [hf] at h1
          cases fl with
          | nx d2 => exact absurd hf (hn1 d2 S2)
          | ct d2 => exact absurd hf (hn2 d2 S2)
          | bk d2 => exact absurd hf (hn3 d2 S2)
          | rt u => exact fun w3 eS3 st3 s3 v r => h1 w3 eS3 (st1.trans st3) s3 v r
          | ex x d2 => exact fun w3 eS3 st3 s3 σ3 e3 cls dd xr => h1 w3 eS3 (st1.trans st3) s3 σ3 e3 cls dd xr
        | exc x S => rw [hf] at h1; exact h1
        | bad => rw [hf] at h1; exact h1

/-! ### comprehensions -/
abbrev W0 : WX := fun _ _ _ _ => False
def SimTs (X : Cx) (Wx : WX) (ifs : List Expr) (f : FT) : Prop := PTs X ifs (tT X Wx f)
def fYes : FT := fun _ S => .ok true S
theorem ts_nil : SimTs X Wx [] fYes := ⟨fun pins s σ H Q I ⟨w, d, e, sr, er, q⟩ => pts_nil.run pins s σ H Q I (by subst e; exact q w rfl (Stp.refl w) sr)⟩
theorem ts_one {f : FT} (h : SimT X Wx c f) : SimTs X Wx [c] f := pts_one h
def wipeE (d : En) : List Nat → En
  | [] => d
  | v :: vs => (wipeE d vs).set v none
theorem ER.wipe {K : KM} {w : Wd} {d : En} {σ : L2.St} (e : ER K w d σ) : ∀ vs : List Nat, ER K w (wipeE d vs) (L2.wipe σ vs)
  | [] => e
  | v :: vs => (ER.wipe e vs).forget v none
/-- what a comprehension makes, behind acc -/
def compF (g : U → En → Option En) (ft : FT) (fe : FE) (d : En) : List U → List U → Sto → R (List U)
  | [], acc, S => .ok acc S
  | u :: us, acc, S => match g u d with
    | none => .bad
    | some d1 => match ft d1 S with
      | .ok true S1 => match fe d1 S1 with
        | .ok y S2 => guard (decide (acc.length < sizeLine)) (compF g ft fe d us (acc ++ [y]) S2)
        | _ => .bad
      | .ok false S1 => compF g ft fe d us acc S1
      | _ => .bad
def aComp (fi : FA) (g : U → En → Option En) (ft : FT) (fe : FE) (vs : List Nat) : FA := fun d S => (fi d S).bind fun us S1 => compF g ft fe (wipeE d vs) us [] S1
theorem comp_core {wi : TI} {fi : FA} {is vs : List Nat} {g : U → En → Option En} {ft : FT} {fe : FE}
    (hi : ∀ (w : Wd) (d : En) (σ : L2.St) (Q : It → Hp → Prop), SR (KMof X) w → ER (KMof X) w d σ → Pst (fi d w.S) (OkI X w Q) (XPost X Wx σ w) → wi σ w.H Q) (hv : ∀ i ∈ is, i ∈ vs)
    (w : Wd) (d : En) (σ : L2.St) (Q : VK) (s : SR (KMof X) w) (e : ER (KMof X) w d σ) (h : Pst (aComp fi g ft fe vs d w.S) (OkL X w Q) (XPost X Wx σ w)) : tLc wi (tG X is g) (tT X W0 ft) (tE X W0 fe) vs σ w.H Q := by
  refine hi w d σ _ s e ((Pst.of_bind h).mono (fun us S1 h1 w1 J eS st s1 it => ?_) fun _ _ q => q)
  subst eS
  intro D hD
  have nD : D ∉ w1.r := fun z => s1.tracked (.inl z) hD
  have noE : ∀ (us acc : List U) (S : Sto), Pst (compF g ft fe (wipeE d vs) us acc S) (OkL X w Q) (XPost X Wx σ w) → Pst (compF g ft fe (wipeE d vs) us acc S) (OkL X w Q) (fun _ _ => False) := fun us => by
    induction us with
    | nil => intro acc S h; exact h
    | cons u us ih =>
      intro acc S h
      unfold compF at h ⊢
      split at h
      · exact h.elim
      · split at h
        · split at h
          · obtain ⟨hl, h⟩ := guard_post h
            rw [hl]
            exact ih _ _ h
          · exact h.elim
        · exact ih _ _ h
        · exact h.elim
  refine ⟨fun i m H => ∃ (w' : Wd) (acc : List U) (xs : List V), w'.H = H ∧ Ext w1 w' ∧ (∀ a ∈ w1.r, w'.H a = w1.H a) ∧ SR (KMof X) w' ∧ w'.r = D :: w1.r ∧ w'.H D = some (.lst xs) ∧ VRs (KMof X) w' acc xs ∧ m = us.length - i ∧ i ≤ us.length ∧
      Pst (compF g ft fe (wipeE d vs) (us.drop i) acc w'.S) (OkL X w Q) (fun _ _ => False),
    ⟨us.length, w1.hold D (.lst []), [], [], rfl, Ext.hold s1 hD, fun a ha => ?_, s1.hold hD (.inl ⟨_, rfl⟩), rfl, upd_same, .nil, by simp, Nat.zero_le _, noE us [] w1.S h1⟩, ?_⟩
  · show upd w1.H D _ a = w1.H a
    rw [upd_ne fun z => nD (by rw [← z]; exact ha)]
  rintro i m H ⟨w', acc, xs, rfl, x1, k1, s', er, eD, rs, rfl, hil, q⟩
  have hDr : D ∈ w'.r := by rw [er]; exact List.mem_cons_self
  obtain ⟨it1, it2⟩ := it w' i x1 s'
  by_cases hlt : i < us.length
  · rw [drop_at hlt] at q
    obtain ⟨go, yl⟩ := it1 us[i] (List.getElem?_eq_getElem hlt)
    refine .inr ⟨go, fun H2 => ∃ (w2 : Wd) (acc2 : List U) (xs2 : List V), w2.H = H2 ∧ Ext w1 w2 ∧ (∀ a ∈ w1.r, w2.H a = w1.H a) ∧ SR (KMof X) w2 ∧ w2.r = D :: w1.r ∧ w2.H D = some (.lst xs2) ∧ VRs (KMof X) w2 acc2 xs2 ∧ Pst (compF g ft fe (wipeE d vs) (us.drop (i + 1)) acc2 w2.S) (OkL X w Q) (fun _ _ => False),
      fun H2 ⟨w2, acc2, xs2, e1, e2, e3, e4, e5, e6, e7, e8⟩ => ⟨us.length - (i + 1), by omega, w2, acc2, xs2, e1, e2, e3, e4, e5, e6, e7, rfl, hlt, e8⟩, fun x H' y => ?_⟩
    obtain ⟨w2, rfl, eS2, st2, s2, rx⟩ := yl x H' y
    rw [← eS2] at q
    have sub : ∀ a ∈ w1.r, a ∈ w'.r := fun a ha => by rw [er]; exact List.mem_cons_of_mem _ ha
    -- later worlds
    have later : ∀ {w3 : Wd}, Stp w' w3 → SR (KMof X) w3 → Ext w1 w3 ∧ (∀ a ∈ w1.r, w3.H a = w1.H a) ∧ w3.r = D :: w1.r ∧ w3.H D = some (.lst xs) ∧ VRs (KMof X) w3 acc xs := fun {w3} st3 s3 =>
      ⟨x1.trans st3.x, fun a ha => (st3.k a (sub a ha)).trans (k1 a ha), st3.r.trans er, (st3.k D hDr).trans eD, rs.ext st3.x s'⟩
    unfold compF at q
    split at q
    · exact q.elim
    · rename_i d1 hd1
      have e2 : ER (KMof X) w2 (wipeE d vs) (L2.wipe σ vs) := (((e.ext st.x s).ext x1 s1).ext st2.x s').wipe vs
      refine ⟨w2, us[i], wipeE d vs, d1, rfl, s2, e2, rx, hd1, fun σ2 eσ kσ => ⟨?_, ?_⟩⟩
      · have hk := kσ vs hv
        have ww : ∀ σ : L2.St, L2.wipe (L2.wipe σ vs) vs = L2.wipe σ vs := fun σ => by
          refine List.ext_getElem? fun j => ?_
          rw [wipe_get, wipe_get, wipe_length]
          split <;> rfl
        rw [hk, ww]
      · refine ⟨w2, d1, rfl, s2, eσ, ?_⟩
        split at q
        · rename_i S3 ht
          rw [ht]
          intro w3 eS3 st3 s3
          rw [← eS3] at q
          split at q
          · rename_i y4 S4 hy
            refine ⟨w3, d1, rfl, s3, eσ.ext st3.x s2, ?_⟩
            rw [hy]
            intro w4 v4 eS4 st4 s4 r4
            rw [← eS4] at q
            obtain ⟨hl, q⟩ := guard_post q
            have st34 := (st2.trans st3).trans st4
            obtain ⟨l1, l2, l3, l4, l5⟩ := later st34 s4
            have hD4 : D ∈ w4.r := by rw [l3]; exact List.mem_cons_self
            refine ⟨xs, l4, by rw [← rs.length]; exact of_decide_eq_true hl, w4.grow D (xs ++ [v4]), acc ++ [y4], xs ++ [v4], rfl, l1.trans (Ext.grow hD4), fun a ha => ?_, s4.grow hD4, l3, upd_same, (l5.snoc r4).ext (Ext.grow hD4) s4, q⟩
            show upd w4.H D _ a = w1.H a
            rw [upd_ne fun z => nD (by rw [← z]; exact ha)]
            exact l2 a ha
          · exact q.elim
        · rename_i S3 ht
          rw [ht]
          intro w3 eS3 st3 s3
          rw [← eS3] at q
          obtain ⟨l1, l2, l3, l4, l5⟩ := later (st2.trans st3) s3
          exact ⟨w3, acc, xs, rfl, l1, l2, s3, l3, l4, l5, q⟩
        · exact q.elim
  · have e0 : i = us.length := by omega
    subst e0
    rw [List.drop_length] at q
    refine .inl ⟨it2 (Nat.le_refl _), ?_⟩
    have hq := q (w'.cut D) D xs rfl ⟨(st.x.trans (x1.cut hD)), ?_, fun a ha => ?_⟩ (s'.cut hDr) (rs.cut (.inl hDr) eD (.inl ⟨_, rfl⟩)) cut_D
    · rw [cut_back eD] at hq
      exact hq
    · show w'.r.filter _ = w.r
      rw [er, let_go_r nD]
      exact st.r
    · have ha1 : a ∈ w1.r := by rw [st.r]; exact ha
      rw [cut_at fun z => nD (by rw [← z]; exact ha1), k1 a ha1]
      exact st.k a ha
section
variable {ifs : List Expr} {scope : Scope} {own : List (Str × Nat)} {fi : FA} {is vs : List Nat} {g : U → En → Option En} {ft : FT} {fe : FE}
theorem sl_comp (hc : X.calm = true) (hN : X.N.Nodup) (hi : SimI X Wx tg iter fi) (ok : BlkOk X.N X.env.scope scope own)
    (hg : ∀ (s : Shared) (H : Hp) (C : Addr) (cl : List (Str × Addr)) (fp : List Addr), SimG (X.blk s H scope (compEnvC scope cl C X.env) fp) tg is g)
    (ht : ∀ (s : Shared) (H : Hp) (C : Addr) (cl : List (Str × Addr)) (fp : List Addr), SimTs (X.blk s H scope (compEnvC scope cl C X.env) fp) W0 ifs ft)
    (he : ∀ (s : Shared) (H : Hp) (C : Addr) (cl : List (Str × Addr)) (fp : List Addr), SimE (X.blk s H scope (compEnvC scope cl C X.env) fp) W0 elt fe)
    (hvs : own.map (·.2) = vs := by rfl) (hv : ∀ i ∈ is, i ∈ vs := by decide) (hs : ∀ x, foldedSetIterable iter X.env x = pure x := by intro _; rfl) :
    SimL X Wx (.ListComp elt [⟨tg, iter, ifs, 0⟩] scope pos) (aComp fi g ft fe vs) := by
  subst hvs
  obtain ⟨ti, pi, hi⟩ := hi
  exact SimL.mk (pe_lc (g := tG X is g) (tt := tT X W0 ft) (te := tE X W0 fe) hc hN pi ok hg ht he hs) (fun w d σ Q s e h => comp_core hi hv w d σ Q s e h)
theorem ss_setComp (i : Nat) {y : Str} {py spos : Pos} (hc : X.calm = true) (hN : X.N.Nodup) (hy : X.N[i]? = some y) (hyl : X.env.scope.names.lookup y = some .local)
    (hsw : swapsWith (.ListComp elt [⟨tg, iter, ifs, 0⟩] scope pos) (some (.Name y py)) spos.line X.env = pure true) (hi : SimI X Wx tg iter fi) (ok : BlkOk X.N X.env.scope scope own)
    (hg : ∀ (s : Shared) (H : Hp) (C : Addr) (cl : List (Str × Addr)) (fp : List Addr), SimG (X.blk s H scope (compEnvC scope cl C X.env) fp) tg is g)
    (ht : ∀ (s : Shared) (H : Hp) (C : Addr) (cl : List (Str × Addr)) (fp : List Addr), SimTs (X.blk s H scope (compEnvC scope cl C X.env) fp) W0 ifs ft)
    (he : ∀ (s : Shared) (H : Hp) (C : Addr) (cl : List (Str × Addr)) (fp : List Addr), SimE (X.blk s H scope (compEnvC scope cl C X.env) fp) W0 elt fe)
    (hvs : own.map (·.2) = vs := by rfl) (hv : ∀ i ∈ is, i ∈ vs := by decide) (hs : ∀ x, foldedSetIterable iter X.env x = pure x := by intro _; rfl) :
    SimS X Wx (.Assign [.Name y py] (.ListComp elt [⟨tg, iter, ifs, 0⟩] scope pos) spos) (fSet i (fVal (aComp fi g ft fe vs))) ∧
    SimS X Wx (.Assign [.Name y py] (.ListComp elt [⟨tg, iter, ifs, 0⟩] scope pos) spos) (fSet i (fLoc (aComp fi g ft fe vs))) := by
  subst hvs
  obtain ⟨ti, pi, hi⟩ := hi
  have hp := ps_setLc (g := tG X is g) (tt := tT X W0 ft) (te := tE X W0 fe) hc hN hy hyl hsw pi ok hg ht he hs
  refine ⟨SimS.mk hp (fun w d σ D s e h => ?_), SimS.mk hp (fun w d σ D s e h => ?_)⟩
  · refine comp_core hi hv w d σ _ s e ((Pst.of_bind (toS_post s e h)).mono (fun us S1 h1 w1 p xs eS st s1 rs hp => ?_) fun _ _ q => q)
    subst eS
    have st1 := Stp.new s1 (o := .lst xs) hp
    exact h1 (w1.new p (.lst xs)) rfl (st.trans st1) (s1.new hp) _ (((e.ext st.x s).ext st1.x s1).set i (.lst upd_same (fun q => s1.tracked q hp) (rs.ext st1.x s1)))
  · refine comp_core hi hv w d σ _ s e ((Pst.of_bind (toS_post s e h)).mono (fun us S1 h1 w1 p xs eS st s1 rs hp => ?_) fun _ _ q => q)
    subst eS
    have st1 := Stp.push s1 (o := .lst xs) (b := .lst us) hp
    refine h1 (w1.push p (.lst xs) (.lst us)) rfl (st.trans st1) (s1.push hp ⟨xs, upd_same, rs.ext st1.x s1⟩) _ (((e.ext st.x s).ext st1.x s1).set i (.loc ?_))
    show (w1.m ++ [p])[w1.S.length]? = some p
    rw [← s1.len]
    simp
end
end
end DL

set_option Elab.async false
set_option linter.all false
set_option maxRecDepth 100000
namespace DL
open PySem PySem.Spec L2

/-! ### dicts, put -/
def hasK (ks : List Key) (k : Key) : Bool := ks.any fun j => decide (j = k)
def replU : List Key → List U → Key → U → List U
  | j :: ks, y :: us, k, u => (if j = k then u else y) :: replU ks us k u
  | _, _, _, _ => []
def putU (ks : List Key) (us : List U) (k : Key) (u : U) : List Key × List U := if hasK ks k then (ks, replU ks us k u) else (ks ++ [k], us ++ [u])
section
variable {K : KM} {w : Wd}
theorem zip_any {k : Key} : ∀ {ks : List Key} {xs : List V}, ks.length = xs.length → ((ks.zip xs).any fun kv => decide (kv.1 = k)) = hasK ks k
  | [], _, _ => rfl
  | j :: ks, [], h => by rw [List.length_cons, List.length_nil] at h; omega
  | j :: ks, x :: xs, h => by
    rw [List.zip_cons_cons, List.any_cons, zip_any (ks := ks) (xs := xs) (by simpa using h)]
    rfl
theorem repl_ok {k : Key} {u : U} {v : V} (r : VR K w u v) : ∀ {ks : List Key} {us : List U} {xs : List V}, ks.length = us.length → VRs K w us xs →
    ∃ xs', (ks.zip xs).map (fun kv => if kv.1 = k then (kv.1, v) else kv) = ks.zip xs' ∧ VRs K w (replU ks us k u) xs' ∧ (replU ks us k u).length = ks.length
  | [], us, xs, h, rs => by
    cases us with
    | nil => exact ⟨[], by rw [List.zip_nil_left, List.zip_nil_left]; rfl, .nil, rfl⟩
    | cons y us => rw [List.length_cons, List.length_nil] at h; omega
  | j :: ks, us, xs, h, rs => by
    cases rs with
    | nil => rw [List.length_cons, List.length_nil] at h; omega
    | @cons y us x xs ry rs =>
      obtain ⟨xs', e, rs', l⟩ := repl_ok r (ks := ks) (by simpa using h) rs
      rw [List.zip_cons_cons, List.map_cons, e]
      by_cases hj : j = k
      · refine ⟨v :: xs', by rw [if_pos hj, List.zip_cons_cons], ?_, ?_⟩
        · show VRs K w ((if j = k then u else y) :: replU ks us k u) (v :: xs')
          rw [if_pos hj]; exact .cons r rs'
        · show ((if j = k then u else y) :: replU ks us k u).length = _
          rw [List.length_cons, List.length_cons, l]
      · refine ⟨x :: xs', by rw [if_neg hj, List.zip_cons_cons], ?_, ?_⟩
        · show VRs K w ((if j = k then u else y) :: replU ks us k u) (x :: xs')
          rw [if_neg hj]; exact .cons ry rs'
        · show ((if j = k then u else y) :: replU ks us k u).length = _
          rw [List.length_cons, List.length_cons, l]
theorem put_ok {k : Key} {u : U} {v : V} (r : VR K w u v) {ks : List Key} {us : List U} {xs : List V} (l : ks.length = us.length) (rs : VRs K w us xs) :
    ∃ xs', putK (ks.zip xs) k v = (putU ks us k u).1.zip xs' ∧ VRs K w (putU ks us k u).2 xs' ∧ (putU ks us k u).1.length = (putU ks us k u).2.length := by
  unfold putK putU
  rw [zip_any (by rw [l, rs.length])]
  cases hasK ks k with
  | true =>
    obtain ⟨xs', e, rs', l'⟩ := repl_ok (k := k) r l rs
    exact ⟨xs', e, rs', l'.symm⟩
  | false =>
    refine ⟨xs ++ [v], ?_, rs.snoc r, ?_⟩
    · show ks.zip xs ++ [(k, v)] = (ks ++ [k]).zip (xs ++ [v])
      rw [List.zip_append (by rw [l, rs.length])]
      rfl
    · show (ks ++ [k]).length = (us ++ [u]).length
      simp [l]
def mergeU (acc : List Key × List U) : List (Key × U) → List Key × List U
  | [] => acc
  | (k, u) :: r => mergeU (putU acc.1 acc.2 k u) r
theorem merge_ok : ∀ {ps : List (Key × U)} {vs : List V} {ks : List Key} {us : List U} {xs : List V}, VRs K w (ps.map (·.2)) vs → ks.length = us.length → VRs K w us xs →
    ∃ xs', mergeK (ks.zip xs) ((ps.map (·.1)).zip vs) = (mergeU (ks, us) ps).1.zip xs' ∧ VRs K w (mergeU (ks, us) ps).2 xs' ∧ (mergeU (ks, us) ps).1.length = (mergeU (ks, us) ps).2.length
  | [], _, ks, us, xs, .nil, l, rs => ⟨xs, rfl, rs, l⟩
  | (k, u) :: ps, v :: vs, ks, us, xs, .cons r rr, l, rs => by
    obtain ⟨xs1, e1, r1, l1⟩ := put_ok (k := k) r l rs
    obtain ⟨xs2, e2, r2, l2⟩ := merge_ok rr l1 r1
    refine ⟨xs2, ?_, r2, l2⟩
    show mergeK (putK (ks.zip xs) k v) ((ps.map (·.1)).zip vs) = _
    rw [e1]
    exact e2
end

section
variable {X : Cx} {Wx : WX}
/-! ### displays -/
abbrev FD := En → Sto → R (List Key × List U)
def OkD (X : Cx) (w : Wd) (Q : VK) (p : List Key × List U) (S' : Sto) : Prop :=
  ∀ (w' : Wd) (a : Addr) (xs : List V), w'.S = S' → Stp w w' → SR (KMof X) w' → p.1.length = p.2.length → VRs (KMof X) w' p.2 xs → w'.H a = none → Q (.ref a) (upd w'.H a (.dK (p.1.zip xs)))
theorem OkD.up {w w1 : Wd} {Q : VK} {u : List Key × List U} {S' : Sto} (h : OkD X w Q u S') (st : Stp w w1) : OkD X w1 Q u S' := fun w' p xs e s2 sr l r hp => h w' p xs e (st.trans s2) sr l r hp
/-- an expression that makes a new dict -/
def SimD (X : Cx) (Wx : WX) (e : Expr) (f : FD) : Prop := PE X e (fun σ H Q => ∃ (w : Wd) (d : En), w.H = H ∧ SR (KMof X) w ∧ ER (KMof X) w d σ ∧ Pst (f d w.S) (OkD X w Q) (XPost X Wx σ w))
theorem SimD.mk {e : Expr} {f : FD} {t : TE} (p : PE X e t) (h : ∀ (w : Wd) (d : En) (σ : L2.St) (Q : VK), SR (KMof X) w → ER (KMof X) w d σ → Pst (f d w.S) (OkD X w Q) (XPost X Wx σ w) → t σ w.H Q) : SimD X Wx e f :=
  ⟨fun pins s σ H Q I ⟨w, d, e, sr, er, q⟩ => p.run pins s σ H Q I (by subst e; exact h w d σ Q sr er q)⟩
def fDval (g : FD) : FE := fun d S => (g d S).bind fun p S1 => .ok (.dic p.1 p.2) S1
def fDloc (g : FD) : FE := fun d S => (g d S).bind fun p S1 => .ok (.loc S1.length) (S1 ++ [.dic p.1 p.2])
theorem SimD.val {e : Expr} {g : FD} (h : SimD X Wx e g) : SimE X Wx e (fDval g) := by
  refine SimE.mk h (fun w d σ Q s e h0 => ⟨w, d, rfl, s, e, (Pst.of_bind h0).mono (fun p S1 h1 w1 a xs eS st s1 l rs hp => ?_) fun _ _ q => q⟩)
  subst eS
  have st1 := Stp.new s1 (o := .dK (p.1.zip xs)) hp
  exact h1 (w1.new a _) (.ref a) rfl (st.trans st1) (s1.new hp) (.dic upd_same (fun q => s1.tracked q hp) l (rs.ext st1.x s1))
theorem SimD.loc {e : Expr} {g : FD} (h : SimD X Wx e g) : SimE X Wx e (fDloc g) := by
  refine SimE.mk h (fun w d σ Q s e h0 => ⟨w, d, rfl, s, e, (Pst.of_bind h0).mono (fun p S1 h1 w1 a xs eS st s1 l rs hp => ?_) fun _ _ q => q⟩)
  subst eS
  have st1 := Stp.push s1 (o := .dK (p.1.zip xs)) (b := .dic p.1 p.2) hp
  refine h1 (w1.push a _ (.dic p.1 p.2)) (.ref a) rfl (st.trans st1) (s1.push hp ⟨xs, upd_same, l, rs.ext st1.x s1⟩) (.loc ?_)
  show (w1.m ++ [a])[w1.S.length]? = some a
  rw [← s1.len]
  simp
variable {pos : Pos}
def dNew : FD := fun _ S => .ok ([], []) S
theorem sd_new : SimD X Wx (.Dict [] [] pos) dNew := SimD.mk pe_dnewK (fun w d σ Q s e h p hp => h w p [] rfl (Stp.refl w) s rfl .nil hp)
def evalP : List (FE × FE) → En → Sto → R (List (Key × U))
  | [], _, S => .ok [] S
  | (fk, fv) :: r, d, S => match fk d S with
    | .ok x S1 => match fv d S1 with
      | .ok y S2 => match evalP r d S2 with
        | .ok ps S3 => match keyU x with
          | some k => .ok ((k, y) :: ps) S3
          | none => .bad
        | _ => .bad
      | _ => .bad
    | _ => .bad
def SimP (X : Cx) (Wx : WX) (pos : Pos) (keys : List (Option Expr)) (values : List Expr) (fs : List (FE × FE)) : Prop := PPs X pos keys values (fs.map fun p => (tE X Wx p.1, tE X Wx p.2))
theorem sp_nil : SimP X Wx pos [] [] [] := pps_nil
theorem sp_cons {k v : Expr} {ks : List (Option Expr)} {vs : List Expr} {fk fv : FE} {fs : List (FE × FE)} (hk : SimE X Wx k fk) (hv : SimE X Wx v fv) (hr : SimP X Wx pos ks vs fs) : SimP X Wx pos (some k :: ks) (v :: vs) ((fk, fv) :: fs) := pps_cons hk hv hr
theorem evalP_ok : ∀ {fs : List (FE × FE)} {w : Wd} {d : En} {σ : L2.St} {Q : List (V × V) → Hp → Prop}, SR (KMof X) w → ER (KMof X) w d σ →
    Pst (evalP fs d w.S) (fun ps S' => ∀ (w' : Wd) (vs : List V), w'.S = S' → Stp w w' → SR (KMof X) w' → VRs (KMof X) w' (ps.map (·.2)) vs → Q (((ps.map (·.1)).map kV).zip vs) w'.H) (fun _ _ => False) → tPairs (fs.map fun p => (tE X Wx p.1, tE X Wx p.2)) σ w.H Q
  | [], w, d, σ, Q, s, e, h => h w [] rfl (Stp.refl w) s .nil
  | (fk, fv) :: r, w, d, σ, Q, s, e, h => by
    unfold evalP at h
    split at h
    · rename_i x S1 hx
      refine ⟨w, d, rfl, s, e, ?_⟩
      show Pst (fk d w.S) _ _
      rw [hx]
      intro w1 v1 eS1 st1 s1 r1
      rw [← eS1] at h
      split at h
      · rename_i y S2 hy
        refine ⟨w1, d, rfl, s1, e.ext st1.x s, ?_⟩
        show Pst (fv d w1.S) _ _
        rw [hy]
        intro w2 v2 eS2 st2 s2 r2
        rw [← eS2] at h
        refine evalP_ok (d := d) s2 ((e.ext st1.x s).ext st2.x s1) ?_
        split at h
        · rename_i ps S3 hp
          rw [hp]
          intro w3 vs eS3 st3 s3 rs
          split at h
          · rename_i k hk
            have hv1 := keyU_ok r1 hk
            have h3 := h w3 (v2 :: vs) eS3 ((st1.trans st2).trans st3) s3 (.cons (r2.ext st3.x s2) rs)
            rw [hv1]
            exact h3
          · exact h.elim
        · exact h.elim
      · exact h.elim
    · exact h.elim
def dDisp (fs : List (FE × FE)) : FD := fun d S => match evalP fs d S with
  | .ok ps S1 => guard (decide (ps.length ≤ 15)) (.ok (mergeU ([], []) ps) S1)
  | _ => .bad
theorem sd_disp {keys : List (Option Expr)} {values : List Expr} {fs : List (FE × FE)} (h : SimP X Wx pos keys values fs) (hall : keys.all (·.isSome) = true := by rfl) (hl : keys.length = values.length := by rfl) (h0 : keys ≠ [] := by intro z; cases z)
    (hn : keys.length ≤ 15 := by decide) : SimD X Wx (.Dict keys values pos) (dDisp fs) := by
  refine SimD.mk (pe_disp h hall hl h0 hn) (fun w d σ Q s e h => ?_)
  intro p hp
  have sh := s.hold (o := .dK []) hp (.inr ⟨_, rfl⟩)
  have xh := Ext.hold s (o := .dK []) hp
  have np : p ∉ w.r := fun z => s.tracked (.inl z) hp
  refine evalP_ok (w := w.hold p (.dK [])) (d := d) sh (e.ext xh s) ?_
  show Pst (evalP fs d w.S) _ _
  unfold dDisp at h
  split at h
  · rename_i ps S1 hps
    rw [hps]
    obtain ⟨hlen, h⟩ := guard_post h
    intro w1 vs eS st1 s1 rs
    have hpr : p ∈ w1.r := by rw [st1.r]; exact List.mem_cons_self
    have ep : w1.H p = some (.dK []) := (st1.k p List.mem_cons_self).trans upd_same
    refine ⟨ep, (ps.map (·.1)).zip vs, ?_, ?_, ?_⟩
    · have : ∀ (ks : List Key) (vs : List V), (ks.map kV).zip vs = (ks.zip vs).map fun kv => (kV kv.1, kv.2) := fun ks => by
        induction ks with
        | nil => intro vs; rfl
        | cons k ks ih =>
          intro vs
          cases vs with
          | nil => rfl
          | cons v vs => rw [List.map_cons, List.zip_cons_cons, List.zip_cons_cons, List.map_cons, ih]
      exact this _ _
    · rw [List.length_zip, List.length_map]
      exact Nat.le_trans (Nat.min_le_left _ _) (of_decide_eq_true hlen)
    · obtain ⟨xs', em, rm, lm⟩ := merge_ok (ks := []) (us := []) (xs := []) (rs.cut (.inl hpr) ep (.inr ⟨_, rfl⟩)) rfl .nil
      have em' : mergeK [] ((ps.map (·.1)).zip vs) = (mergeU ([], []) ps).1.zip xs' := em
      rw [em']
      have hq := h (w1.cut p) p xs' eS ⟨(xh.trans st1.x).cut hp, ?_, fun a ha => ?_⟩ (s1.cut hpr) lm rm cut_D
      · have hb : upd (w1.cut p).H p (.dK ((mergeU ([], []) ps).1.zip xs')) = upd w1.H p (.dK ((mergeU ([], []) ps).1.zip xs')) := by
          funext b
          by_cases eb : b = p
          · subst eb; rw [upd_same, upd_same]
          · rw [upd_ne eb, upd_ne eb, cut_at eb]
        rw [hb] at hq
        exact hq
      · show w1.r.filter _ = w.r
        rw [st1.r]
        exact let_go_r np
      · rw [cut_at fun z => np (by rw [← z]; exact ha), st1.k a (List.mem_cons_of_mem _ ha)]
        show upd w.H p _ a = w.H a
        rw [upd_ne fun z => np (by rw [← z]; exact ha)]
  · exact h.elim

/-! ### o[i] = v -/
def stU (o i v : U) (S : Sto) : Option Sto := match o with
  | .loc n => match S[n]? with
    | some (.lst us) => match i with
      | .int k => (ixN us.length k).map fun j => S.set n (.lst (us.set j v))
      | _ => none
    | some (.dic ks us) => match keyU i with
      | some k => if ks.length < sizeLine then some (S.set n (.dic (putU ks us k v).1 (putU ks us k v).2)) else none
      | none => none
    | _ => none
  | _ => none
theorem set_any (hu : X.A.units + 1 < cLine) : PSet X (fun o i v H Q => rSetL o i v H Q ∨ ∃ a H', o = .ref a ∧ DPut H a i v H' ∧ Q H') := by
  intro pins s σ H o i v ov iv u Q I ro ri rv h
  rcases h with h | ⟨a, H', rfl, g, q⟩
  · exact set_list pins s σ H o i v ov iv u Q I ro ri rv h
  · cases ro
    exact d_setItem hu I g ri rv fun s' I' => ⟨H', I', q⟩
def fStore (fe fo fi : FE) : FS := fun d S => toS d (fe d S) fun v S1 => toS d (fo d S1) fun o S2 => toS d (fi d S2) fun i S3 => match stU o i v S3 with
  | some S4 => .ok (.nx d) S4
  | none => .bad
theorem ss_store {e o i : Expr} {fe fo fi : FE} {p2 : Pos} (hu : X.A.units + 1 < cLine) (he : SimE X Wx e fe) (ho : SimE X Wx o fo) (hi : SimE X Wx i fi)
    (ha : ∀ v, assign (.Subscript o i p2) X.env v = (do
      let ov ← holding [v] (eval o X.env)
      let iv ← holding [v, ov] (eval i X.env)
      standAt p2
      holding [v, ov, iv] (setItem ov iv v)
      release [v, ov, iv] []) := by intro _; rfl)
    (hs : swapsWithSole [.Subscript o i p2] e pos.line X.env = pure false := by rfl) (hw : swappedStores [.Subscript o i p2] e X.env = pure none := by rfl)
    (h1 : (assignEach [.Subscript o i p2] X.env).map (·.2) = [assign (.Subscript o i p2) X.env] := by rfl) : SimS X Wx (.Assign [.Subscript o i p2] e pos) (fStore fe fo fi) := by
  obtain ⟨te, pe, he⟩ := he.out
  obtain ⟨to, po, ho⟩ := ho.out
  obtain ⟨ti, pi, hi⟩ := hi.out
  refine SimS.mk (ps_asg pe (pg_sub po pi (set_any hu) ha) hs hw h1) (fun w d σ D s e h => ?_)
  refine he w d σ _ s e ((toS_post s e h).mono (fun v S1 h1 w1 vv eS st s1 rv => ?_) fun _ _ q => q)
  subst eS
  have e1 := e.ext st.x s
  refine ho w1 d σ _ s1 e1 ((toS_post s1 e1 (Pst.mono h1 (fun _ _ q => q.up st) fun _ _ q => q)).mono (fun ou S2 h2 w2 vo eS2 st2 s2 ro => ?_) fun _ _ q => q)
  subst eS2
  have e2 := e1.ext st2.x s1
  refine hi w2 d σ _ s2 e2 ((toS_post s2 e2 (Pst.mono h2 (fun _ _ q => q.up st2) fun _ _ q => q)).mono (fun iu S3 h3 w3 vi eS3 st3 s3 ri => ?_) fun _ _ q => q)
  subst eS3
  have ro3 := ro.ext st3.x s2
  have rv3 := (rv.ext st2.x s1).ext st3.x s2
  have e3 := e2.ext st3.x s2
  have fin : ∀ {w4 : Wd}, Stp w3 w4 → SR (KMof X) w4 → OkS X Wx w2 D (.nx d) w4.S → D.nx σ w4.H := fun {w4} st4 s4 q => q w4 rfl (st3.trans st4) s4 σ (e3.ext st4.x s3)
  split at h3
  · rename_i S4 hS4
    unfold stU at hS4
    split at hS4
    · rename_i n
      cases ro3 with
      | @loc _ a hm =>
        split at hS4
        · rename_i us hS
          split at hS4
          · rename_i k
            cases ri
            cases hj : ixN us.length k with
            | none => rw [hj] at hS4; cases hS4
            | some j =>
              rw [hj] at hS4
              cases hS4
              obtain ⟨xs, q, rs⟩ := s3.obj n a _ hm hS
              have st4 : Stp w3 (w3.put n a (.lst (xs.set j vv)) (.lst (us.set j v))) := Stp.put s3 hm hS (by intro z; cases z)
              exact .inl ⟨a, xs, k, j, rfl, rfl, q, by rw [← rs.length]; exact hj, fin st4 (s3.put hm hS (by intro z; cases z) ⟨_, upd_same, (rs.set rv3 j).ext st4.x s3⟩) h3⟩
          · cases hS4
        · rename_i ks us hS
          split at hS4
          · rename_i k hk
            split at hS4
            · rename_i hl
              cases hS4
              obtain ⟨xs, q, l, rs⟩ := s3.obj n a _ hm hS
              rw [keyU_ok ri hk]
              obtain ⟨xs', ep, rs', l'⟩ := put_ok (k := k) rv3 l rs
              have st4 : Stp w3 (w3.put n a (.dK ((putU ks us k v).1.zip xs')) (.dic (putU ks us k v).1 (putU ks us k v).2)) := Stp.put s3 hm hS (by intro z; cases z)
              refine .inr ⟨a, _, rfl, DPut.k q (by rw [zip_len l rs]; exact hl), ?_⟩
              rw [ep]
              exact fin st4 (s3.put hm hS (by intro z; cases z) ⟨_, upd_same, l', rs'.ext st4.x s3⟩) h3
            · cases hS4
          · cases hS4
        · cases hS4
    · cases hS4
  · exact h3.elim
end
end DL

set_option Elab.async false
set_option linter.all false
set_option maxRecDepth 100000
namespace DL
open PySem PySem.Spec L2
def fB (f : FE) : FT := fun d S => asB (f d S)
def fNever : FS := fun _ _ => .bad
section
variable {X : Cx} {Wx : WX} {pos : Pos}
theorem ss_never {st : Stmt} : SimS X Wx st fNever := SimS.mk ps_never (fun w d σ D s e h => h.elim)
theorem ss_doc {x j p2} : SimS X Wx (.Expr (.Constant (.str x) j p2) pos) fNop := SimS.mk ps_doc (fun w d σ D s e h => h w rfl (Stp.refl w) s σ e)

theorem se_ty (n : String) {x : Str} (hg : Gl X x) (hm : X.mg x = none) (hv : bootBuiltins x = some (.type n)) (hn : x ≠ "__name__" := by decide) (hd : (x == ("__debug__" : Str)) = false := by decide) : SimE X Wx (.Name x pos) (fC (.ty n)) :=
  se_bltn hg hm hv (v := .ty n) rfl (fun _ => .ty n) hn hd
/-! ### dicts of the module, keys texts -/
inductive TabOk (K : PySem.W.Frag) : List DictEntry → List (Str × U) → Prop
  | nil : TabOk K [] []
  | cons {e : DictEntry} {es : List DictEntry} {k : Str} {t : Tok} {v : V} {u : U} {tab : List (Str × U)} : e.key = .str k t → RelV v e.val → (∀ w mg P wd, VR ⟨K, mg, P, wd⟩ w u v) → TabOk K es tab → TabOk K (e :: es) ((k, u) :: tab)
theorem TabOk.i {K : PySem.W.Frag} {e : DictEntry} {es : List DictEntry} {k : Str} {t tk : Tok} {i : Int} {tab : List (Str × U)} (hk : e.key = .str k t) (hv : e.val = .int i tk) (r : TabOk K es tab) : TabOk K (e :: es) ((k, .int i) :: tab) := .cons hk (v := .int i) ⟨tk, hv⟩ (fun _ _ _ _ => .int i) r
theorem TabOk.s {K : PySem.W.Frag} {e : DictEntry} {es : List DictEntry} {k x : Str} {t tk : Tok} {tab : List (Str × U)} (hk : e.key = .str k t) (hv : e.val = .str x tk) (r : TabOk K es tab) : TabOk K (e :: es) ((k, .str x) :: tab) := .cons hk (v := .str x) ⟨tk, hv⟩ (fun _ _ _ _ => .str x) r
structure KTab (K : PySem.W.Frag) (wd : World) (a : Addr) (tab : List (Str × U)) : Prop where
  ex : ∃ (es : List DictEntry) (n : Nat), KDict K wd a es.toArray n ∧ TabOk K es tab
def lookT : List (Str × U) → Str → Option U
  | [], _ => none
  | (k, u) :: r, z => if k = z then some u else lookT r z
theorem tab_find {K : PySem.W.Frag} {z : Str} : ∀ {es : List DictEntry} {tab : List (Str × U)}, TabOk K es tab →
    (lookT tab z = none → findBy Value.isStrOf es.toArray z = none) ∧ ∀ u, lookT tab z = some u → ∃ val v, findBy Value.isStrOf es.toArray z = some val ∧ RelV v val ∧ ∀ w mg P wd, VR ⟨K, mg, P, wd⟩ w u v
  | _, _, .nil => ⟨fun _ => rfl, fun u h => by cases h⟩
  | _, _, .cons (e := e) (es := es) (k := k) (t := t) (u := u) (tab := tab) hk hv hr ht => by
    have hf : findBy Value.isStrOf (e :: es).toArray z = if k = z then some e.val else findBy Value.isStrOf es.toArray z := by
      unfold findBy
      rw [List.find?_toArray, List.find?_toArray, List.find?_cons]
      have hb : Value.isStrOf z e.key = decide (k = z) := by
        rw [hk]
        by_cases q : k = z
        · subst q; rw [decide_eq_true rfl]; simp [Value.isStrOf]
        · rw [decide_eq_false q]; simp [Value.isStrOf, q]
      rw [hb]
      by_cases q : k = z
      · rw [if_pos q, decide_eq_true q]; rfl
      · rw [if_neg q, decide_eq_false q]
    rw [hf]
    unfold lookT
    by_cases q : k = z
    · rw [if_pos q, if_pos q]
      exact ⟨fun h => (nomatch h), fun y h => (by cases h; exact ⟨e.val, _, rfl, hv, hr⟩)⟩
    · rw [if_neg q, if_neg q]
      exact tab_find ht
def fWget (tab : List (Str × U)) (f : FE) : FE := fun d S => (f d S).bind fun u S1 => match u with
  | .str z => .ok ((lookT tab z).getD .non) S1
  | _ => .bad
def fWix (tab : List (Str × U)) (f : FE) : FE := fun d S => (f d S).bind fun u S1 => match u with
  | .str z => match lookT tab z with
    | some y => .ok y S1
    | none => .bad
  | _ => .bad
theorem kd_at {pins : List (Addr × Obj)} {σ : L2.St} {H : Hp} {s : Shared} {a : Addr} {es : Array DictEntry} {n : Nat} (I : Inv X pins σ H s) (D : KDict X.K X.w a es n) : ∀ b, Value.ref a = .ref b → ∃ ob, s.heap.get? b = some ob ∧ ob.dict = none := fun b e => by
  cases e
  exact ⟨_, I.kIn _ _ D.at_, rfl⟩
theorem pe_wget {x : Str} {p apos cpos : Pos} {a : Addr} {tab : List (Str × U)} {e : Expr} {te : TE} (D : KTab X.K X.w a tab) (hg : Gl X x) (hm : X.mg x = some (.ref a)) (he : PE X e te) (m : M1 X (.Name x p) "get" apos e cpos) (hd : (x == ("__debug__" : Str)) = false) :
    PE X (.Call (.Attribute (.Name x p) "get" apos) [e] [] cpos) (fun σ H Q => te σ H fun y H1 => ∃ z, y = .str z ∧ (lookT tab z = none → Q .non H1) ∧ ∀ u, lookT tab z = some u → ∀ v, (∀ w, VR (KMof X) w u v) → Q v H1) := by
  obtain ⟨es, n, D, ht⟩ := D.ex
  refine ⟨fun pins s σ H Q I h => ?_⟩
  refine wpAny_Call_method m.base m.few m.line PySem.F.plainAttrs_dict PySem.F.slot_dict_get PySem.F.type_dict_get (ld_glob I hg hm ⟨kd_type D I, kd_at I D, ?_⟩ hd)
  rw [m.trees]
  refine Calls.callWith_builtin rfl (Calls.evalArgs_plain (Calls.spliced_cons (thn (he.run pins s σ H _ I h) fun iv s2 ⟨y, H2, I2, ry, z, ez, q1, q2⟩ => Calls.spliced_nil ?_)))
  subst ez
  obtain ⟨t, rfl⟩ := ry
  have hmap := PySem.W.mapOf_K (prog := X.prog) (w := X.w) I2.kIn D.at_ D.lit
  refine call_meetsIn PySem.F.slot_dict_get hmap.typeIs PySem.F.entry_dict_get (PySem.F.args_dict_get_2 _ _) (meets_dict_get (strKind X.prog X.w) a (PySem.strKind_is X.prog X.w z t) D.low) ⟨_, hmap, ?_⟩
  obtain ⟨f1, f2⟩ := tab_find (z := z) ht
  cases hl : lookT tab z with
  | none =>
    rw [f1 hl]
    exact ⟨.non, H2, I2.tok _, rfl, q1 hl⟩
  | some u =>
    obtain ⟨val, v, e1, e2, e3⟩ := f2 u hl
    rw [e1]
    exact ⟨v, H2, I2.tok _, e2, q2 u hl v (fun w => e3 w _ _ _)⟩
theorem se_wget {x : Str} {p apos cpos : Pos} {a : Addr} {tab : List (Str × U)} {e : Expr} {f : FE} (D : KTab X.K X.w a tab) (hg : Gl X x) (hm : X.mg x = some (.ref a)) (he : SimE X Wx e f)
    (m : M1 X (.Name x p) "get" apos e cpos := by exact ⟨rfl, rfl, rfl, rfl⟩) (hd : (x == ("__debug__" : Str)) = false := by decide) : SimE X Wx (.Call (.Attribute (.Name x p) "get" apos) [e] [] cpos) (fWget tab f) := by
  obtain ⟨t, pe, he⟩ := he.out
  refine SimE.mk (pe_wget D hg hm pe m hd) (fun w d σ Q s e h => ?_)
  refine he w d σ _ s e ((Pst.of_bind h).mono (fun u S1 h1 w1 v eS st s1 r => ?_) fun _ _ q => q)
  cases r with
  | str z =>
    refine ⟨z, rfl, fun hl => ?_, fun u hl v hv => ?_⟩
    · have h1 : OkE X w Q ((lookT tab z).getD .non) S1 := h1
      rw [hl] at h1
      exact h1 w1 .non eS st s1 .non
    · have h1 : OkE X w Q ((lookT tab z).getD .non) S1 := h1
      rw [hl] at h1
      exact h1 w1 v eS st s1 (hv w1)
  | _ => exact h1.elim

/-! ### the ends -/
theorem cx_none {P : Program} {w : World} {outer : List Env} {H : Hp} {s : Shared} {e : Value} {s' : Shared} (h : L2.CX P w outer H s (fun _ _ _ => False) e s') : False := by
  obtain ⟨_, _, _, _, _, _, _, _, _, _, _, _, z⟩ := h
  exact z
def spLaw (K : PySem.W.Frag) (n : Nat) : Sp := fun vs H Q _ => ∃ (a : Addr) (ns : List Int), vs = [.ref a] ∧ Only H ∧ SqL K H a (ns.map V.int) ∧ ns.length ≤ n ∧ ∀ H', Q (.bl true) H'
theorem ints_vr {K : KM} {w : Wd} : ∀ ns : List Int, VRs K w (ns.map U.int) (ns.map V.int)
  | [] => .nil
  | n :: ns => .cons (.int n) (ints_vr ns)
theorem law_of {P : Program} {w : World} {K : PySem.W.Frag} {mg : Str → Option Value} {base : Heap} {k n : Nat} {f : Addr} {fd : FuncData} {ps : List Str} {g : List U → Sto → R U}
    (F : FnOk P w K mg base (L2.CX P w) k f fd ps (spOf ⟨K, mg, P, w⟩ 1 g)) (hg : ∀ ns : List Int, ns.length ≤ n → ∃ S', g [.frz (ns.map .int)] [] = .ok (.bl true) S') : FnOk P w K mg base (L2.CX P w) k f fd ps (spLaw K n) := by
  refine F.imp fun vs H Q E h => ?_
  obtain ⟨a, ns, rfl, ho, hq, hl, q⟩ := h
  obtain ⟨S', e⟩ := hg ns hl
  have fz : FzL K H a (ns.map V.int) := by
    rcases hq with (h | h) | h
    · rcases ho a with z | ⟨o, xs, z⟩
      · rw [h] at z; cases z
      · rw [h] at z; cases z
    · exact .inl h
    · exact .inr h
  refine ⟨⟨[], [], H, []⟩, [.frz (ns.map .int)], rfl, ⟨rfl, fun i j a o o' h1 => (by simp at h1), fun n a o h1 => (by simp at h1), fun a h => (by simp at h), fun a h => (by simp at h)⟩, .cons (.frz fz (ints_vr ns)) .nil, rfl, ?_⟩
  rw [e]
  intro w' v _ _ _ r
  cases r
  exact q _
theorem fn_zero {P : Program} {w : World} {K : PySem.W.Frag} {mg : Str → Option Value} {base : Heap} {f : Addr} {fd : FuncData} {ps : List Str} {g : List U → Sto → R U} (hg : ∀ us S, g us S = .bad) (n : Nat) : FnOk P w K mg base (L2.CX P w) 0 f fd ps (spOf ⟨K, mg, P, w⟩ n g) := by
  have no : ∀ vs H Q E, ¬ spOf ⟨K, mg, P, w⟩ n g vs H Q E := fun vs H Q E ⟨w, us, _, _, _, _, q⟩ => by rw [hg] at q; exact q
  exact ⟨fun vs H Q E h => (no vs H Q E h).elim, fun A outer s H as us vs Q E _ _ _ _ h => (no vs H Q E h).elim⟩
end
end DL

set_option Elab.async false
set_option linter.all false
set_option maxRecDepth 100000
set_option maxHeartbeats 4000000
namespace PySem
namespace OX
open PySem.W PySem.Calls PyProof.Rows PySem.HandSPX
/-- what the maker of exceptions says of itself; bm: the mro behind the own class -/
structure NewF (O newId : String) (bm : List Value) : Prop where
  quiet : newId.startsWith "lifetime." = false
  split : splitId newId = some (O, "__new__")
  kind : builtinKind newId = some .builtinFn
  row : Manifest.signature? newId = some ⟨.any, O, O, .cls, [⟨"args", .varPos, false⟩, ⟨"kwargs", .varKw, false⟩]⟩
  has : bm.contains (.type O) = true
  noA : bm.contains (.type "AttributeError") = false
  noN : bm.contains (.type "NameError") = false
  canon : Manifest.canonical newId = Manifest.canonical "BaseException.__new__"
  ends : newId.endsWith ".__new__" = true
  owner : newId.dropRight 8 = O
  entry : entryFor table newId = some Builtin.«BaseException.__new__»
  star : (O != "*") = true
structure InitF (B initId : String) (bm : List Value) : Prop where
  plain : plainId initId = true
  entry : entryFor table initId = some Builtin.«BaseException.__init__»
  kind : builtinKind initId = some .slot
  split : splitId initId = some (B, "__init__")
  row : Manifest.signature? initId = some ⟨.positional, "*", B, .self, [⟨"args", .varPos, false⟩]⟩
  has : bm.contains (.type B) = true
  star : (B != "*") = true
theorem NewF.of {B n i : String} {bm : List Value} (F : ExcBaseFacts B n i bm) : NewF B n bm := ⟨F.quiet, F.newSplit, F.newKind, F.newRow, F.hasB, F.noAttr, F.noName, F.canon, F.ends, F.owner, F.entry, F.noStar⟩
theorem InitF.of {B n i : String} {bm : List Value} (F : ExcBaseFacts B n i bm) : InitF B i bm := ⟨F.init.plain, F.initEntry, F.initKind, F.initSplit, F.initRow, F.hasB, F.noStar⟩
theorem tail_KeyError_new : NewF "LookupError" "LookupError.__new__" [.type "KeyError", .type "LookupError", .type "Exception", .type "BaseException", .type "object"] :=
  ⟨by decide +kernel, by kernel_rfl, by kernel_rfl, by kernel_rfl, by decide +kernel, by decide +kernel, by decide +kernel, by decide +kernel, by decide +kernel, by decide +kernel, F.excBase_LookupError.entry, by decide +kernel⟩
theorem tail_KeyError_init : InitF "KeyError" "KeyError.__init__" [.type "KeyError", .type "LookupError", .type "Exception", .type "BaseException", .type "object"] :=
  ⟨excClass_KeyError.init.plain, excClass_KeyError.initEntry, by kernel_rfl, by kernel_rfl, by kernel_rfl, by decide +kernel, by decide +kernel⟩
theorem store_KeyError : StoreFacts "KeyError" [.type "KeyError", .type "LookupError", .type "Exception", .type "BaseException", .type "object"] "object.__setattr__" "object" where
  mro := by kernel_rfl
  slot := .of (owner := "object") (n := "__setattr__") (by rw [typeLookup_type, builtinLookup_eq_fast]; kernel_rfl) (by decide +kernel) (by decide +kernel) (by decide +kernel) (by first | exact .inl (by decide +kernel) | exact .inr (by decide +kernel)) (by rw [isSubtype_type]; kernel_rfl)
  entry := F.store_LookupError.entry
  kind := F.store_LookupError.kind
  split := F.store_LookupError.split
  hasOwner := by decide +kernel
  args := F.store_LookupError.args
  passes := fun self => by kernel_rfl

/-! ### made by type.__call__, the own __init__ behind -/
section
variable {P : Program} {wd : World} {Ar : Around} {Er : Value → Shared → Prop} {Rs : Result → Shared → Prop} {hp : Heap} {gs : Array GenState} {dn : Drawn} {tk : Nat} {so : OsState}
variable {nm qn : Str} {C N : Addr} {bs bm : List Value} {hd : Bool} {sn : List Str} {sb : List Value} {ab : Bool} {col : Option Bool} {dd : Option Addr} {e0 e1 e2 e3 e5 : Option Value} {O B newId initId : String}
theorem new_checked {M : Model} (F : NewF O newId bm) {vs : List Value} {Q : Unit → Shared → Prop} (hC : hp.get? C = some (excClassObj nm qn C N bs bm hd sn sb ab col dd e0 e1 e2 e3 e5 newId)) (hq : Q () ⟨hp, gs, dn, tk, so⟩) :
    wpAny M Ar (checkBuiltinCall newId ⟨.ref C :: vs, []⟩) Q Er ⟨hp, gs, dn, tk, so⟩ := by
  have c1 : (Value.ref C :: bm).contains (.type O) = true := by rw [List.contains_cons, F.has, Bool.or_true]
  have c2 := F.star
  simp only [checkBuiltinCall, F.kind, F.split, F.row]
  repeat (first | refine wpAny_loadPart_at hC ?_ | (refine wpAny_isSubtype_exc hC ?_; rw [c1]) | refine wpAny_staticBase_exc hC ?_ | refine wpAny_madeBy_exc hC ?_ | simp only [bne_self_eq_false, Bool.false_eq_true, if_false] | wp_step)
  exact hq
theorem init_checked {M : Model} (F : InitF B initId bm) {e : Addr} {oe : Obj} {vs : List Value} {Q : Unit → Shared → Prop} (hC : hp.get? C = some (excClassObj nm qn C N bs bm hd sn sb ab col dd e0 e1 e2 e3 e5 newId)) (he : hp.get? e = some oe) (hk : oe.cls = .ref C) (hq : Q () ⟨hp, gs, dn, tk, so⟩) :
    wpAny M Ar (checkBuiltinCall initId ⟨.ref e :: vs, []⟩) Q Er ⟨hp, gs, dn, tk, so⟩ := by
  have c1 : (Value.ref C :: bm).contains (.type B) = true := by rw [List.contains_cons, F.has, Bool.or_true]
  have c2 := F.star
  simp only [checkBuiltinCall, F.kind, F.split, F.row]
  repeat (first | (with_reducible refine wpAny_loadPart_at he ?_; rw [hk]) | with_reducible refine wpAny_loadPart_at hC ?_ | (with_reducible refine wpAny_isSubtype_exc hC ?_; rw [c1]) | wp_step)
  refine wpAny_onRaise ?_
  rw [show ∀ (a b : String) (n : Nat), Bind.check ⟨.positional, "*", B, .self, [⟨"args", .varPos, false⟩]⟩ a b n (List.map (fun x => x.fst) ({ pos := Value.ref e :: vs } : Args).kw) = pure () from fun a b n => check_star_args _ _ _ _ _ _]
  exact wpAny_pure hq
theorem new_made (F : NewF O newId bm) {vs : List Value} (hC : hp.get? C = some (excClassObj nm qn C N bs bm hd sn sb ab col dd e0 e1 e2 e3 e5 newId))
    (hq : Rs (.ok (.ret (.ref (hp.objs.size + 1)))) ⟨(hp.push (kdv_tup vs)).push (excO C hp.objs.size), gs, dn, tk, so⟩) (hl : vs.length ≤ sizeLine) : codeAny (model P wd) Ar (.builtin newId ⟨.ref C :: vs, []⟩) Rs ⟨hp, gs, dn, tk, so⟩ := by
  have c0 := F.ends
  have c1 : (Value.ref C :: bm).contains (.type O) = true := by rw [List.contains_cons, F.has, Bool.or_true]
  have c2 : (Value.ref C :: bm).contains (.type "AttributeError") = false := by rw [List.contains_cons, F.noA]; rfl
  have c3 : (Value.ref C :: bm).contains (.type "NameError") = false := by rw [List.contains_cons, F.noN]; rfl
  refine codeAny_builtinAt F.entry ?_
  unfold Builtin.«BaseException.__new__»
  refine wpAt_bind (show wpAt _ _ _ (stack >>= _) _ _ _ from ?_)
  refine wpAt_bind (wpAt_stack fun p q => wpAt_of_wpAny ?_)
  wp_walk
  refine wpAt_of_wpAny ?_
  rw [F.owner]
  repeat (first | with_reducible refine wpAny_madeHere_exc F.canon hC ?_ | with_reducible refine wpAny_loadPart_at hC ?_ | (with_reducible refine wpAny_isSubtype_exc hC ?_; first | rw [c1] | rw [c2] | rw [c3]) | wp_step)
  show Rs _ _
  rw [Heap.size_push]
  exact hq
theorem type_called (F : NewF O newId bm) {vs : List Value} {fI : Addr} {Q : Fin → Shared → Prop} (hC : hp.get? C = some (excClassObj nm qn C N bs bm hd sn sb ab col dd e0 e1 e2 e3 e5 newId))
    (hi : Looks (model P wd) hp (typeLookup (.ref C) "__init__") (some (.ref fI))) (hb : ∀ self, Looks (model P wd) hp (bindSpecial (.ref fI) self) (.ref fI, [self])) (hl : vs.length ≤ sizeLine)
    (hq : codeAny (model P wd) Ar (.call (.ref fI) ⟨.ref (hp.objs.size + 1) :: vs, []⟩) (fun r s' => match r with
      | .ok (.ret v) => v = .none ∧ Q (.done (.ret (.ref (hp.objs.size + 1)))) s'
      | .ok _ => False
      | .error e => Er e s') ⟨(hp.push (kdv_tup vs)).push (excO C hp.objs.size), gs, dn, tk, so⟩) :
    wpAny (model P wd) Ar (Builtin.«type.__call__» ⟨.ref C :: vs, []⟩) Q Er ⟨hp, gs, dn, tk, so⟩ := by
  repeat (first | with_reducible refine wpAny_loadPart_at hC ?_ | with_reducible refine wpAny_madeBy_exc hC ?_ | wp_step)
  refine codeAny_call_builtin_code (Code.quiet_builtin _ F.quiet) (new_checked F hC (new_made F hC (show wpAny _ _ _ _ _ _ from ?_) hl))
  have k : ∀ b o, hp.get? b = some o → ((hp.push (kdv_tup vs)).push (excO C hp.objs.size)).get? b = some o := fun b o q => Heap.get?_push_of_some _ (Heap.get?_push_of_some _ q)
  have hC' := k _ _ hC
  have hg : ((hp.push (kdv_tup vs)).push (excO C hp.objs.size)).get? (hp.objs.size + 1) = some (excO C hp.objs.size) := by heap_get
  have cC : (Value.ref C :: bm).contains (.ref C) = true := by simp
  have l1 := hi.keeps k
  have l2 := (hb (.ref (hp.objs.size + 1))).keeps k
  unfold isInstance
  repeat (first | with_reducible refine wpAny_loadPart_at hg ?_ | (with_reducible refine wpAny_isSubtype_exc hC' ?_; rw [cC]) | wp_step)
  refine (show wpAny _ _ (typeLookup (.ref C) _) _ _ _ from l1.at (wpAny_holding (wpAny_bind (l2.at (wpAny_bind (wpAny_call (codeAny_mono hq fun r s' z => ?_)))))))
  rcases r with e | (v | _ | _ | _) <;> first | exact z | exact z.elim | skip
  obtain ⟨rfl, z⟩ := z
  first
    | exact wpAny_pure (wpAny_pure z)
    | (wp_walk; exact z)
theorem class_called (F : NewF O newId bm) {vs : List Value} {fI : Addr} (hC : hp.get? C = some (excClassObj nm qn C N bs bm hd sn sb ab col dd e0 e1 e2 e3 e5 newId))
    (hi : Looks (model P wd) hp (typeLookup (.ref C) "__init__") (some (.ref fI))) (hb : ∀ self, Looks (model P wd) hp (bindSpecial (.ref fI) self) (.ref fI, [self])) (hl : vs.length ≤ sizeLine)
    (hq : codeAny (model P wd) (Ar.under (.builtin "type.__call__" ⟨.ref C :: vs, []⟩)) (.call (.ref fI) ⟨.ref (hp.objs.size + 1) :: vs, []⟩) (InitBack (hp.objs.size + 1) Rs) ⟨(hp.push (kdv_tup vs)).push (excO C hp.objs.size), gs, dn, tk, so⟩) :
    codeAny (model P wd) Ar (.call (.ref C) ⟨vs, []⟩) Rs ⟨hp, gs, dn, tk, so⟩ := by
  have g1 := tc_lookup
  have g2 := tc_bind (.ref C)
  have g3 : (⟨hp, gs, dn, tk, so⟩ : Shared).TypeIs (.ref C) "type" := ⟨_, hC, rfl⟩
  refine codeAny_of_tree (show wpAny _ _ (callAny (.ref C) _) _ _ _ from ?_)
  repeat (any_goals (first | assumption | with_reducible refine wpAny_loadPart_at hC ?_ | wp_step))
  refine ⟨rfl, codeAny_call_builtin_at (Code.quiet_builtin _ (by decide +kernel)) entry_typeCall (wpAny_check_type_call_sub hC (type_called F hC hi hb hl (codeAny_mono hq fun r s' z => ?_)))⟩
  rcases r with e | (v | _ | _ | _) <;> exact z
/-- BASE.__init__(e, ..): the arguments are laid anew -/
theorem base_init (F : InitF B initId bm) {e t0 : Addr} {vs : List Value} (hC : hp.get? C = some (excClassObj nm qn C N bs bm hd sn sb ab col dd e0 e1 e2 e3 e5 newId)) (he : hp.get? e = some (excO C t0)) (hl : vs.length ≤ sizeLine)
    (hq : ∀ h' t1, (∀ b o, b ≠ e → hp.get? b = some o → h'.get? b = some o) → h'.get? e = some (excO C t1) → Rs (.ok (.ret .none)) ⟨h', gs, dn, tk, so⟩) : codeAny (model P wd) Ar (.call (.builtin initId) ⟨.ref e :: vs, []⟩) Rs ⟨hp, gs, dn, tk, so⟩ := by
  refine codeAny_call_builtin F.plain F.entry (init_checked F hC he rfl ?_)
  wp_walk
  refine hq _ hp.objs.size (fun b o nb q => ?_) ?_
  · rw [Heap.get?_update_other _ _ (Ne.symm nb)]; exact Heap.get?_push_of_some _ q
  · rw [Heap.get?_update_self _ (Heap.get?_push_of_some _ he) rfl]; rfl
end
end OX
end PySem

set_option Elab.async false
set_option linter.all false
set_option maxRecDepth 100000
set_option maxHeartbeats 4000000
namespace PySem
namespace OX
open PySem.W PySem.Calls PyProof.Rows PySem.HandSPX
open Builtin Builtin.ObjectAttr
/-- self.f = v, the exception's first field -/
theorem first_field {P : Program} {wd : World} {Ar : Around} {Rs : Result → Shared → Prop} {hp : Heap} {gs : Array GenState} {dn : Drawn} {t : Nat} {so : OsState} {K : Frag} {f : Str} {tk : Tok} {v : Value} {x C : Addr} {fv : Array Value} {B : String} {bm : List Value}
    (SF : StoreFacts B bm "object.__setattr__" "object") (X : K.In hp) (hx : hp.get? x = some { cls := .ref C, data := .fields fv }) (ho : excOver K C bm = true) (hd : hasDictIn K C = true) (ha : findIn K (.ref C) f = some none)
    (hq : ∀ h' tk' dx, (∀ b o, b ≠ x → hp.get? b = some o → h'.get? b = some o) → hp.objs.size ≤ dx → dx ≠ x → h'.get? x = some { cls := .ref C, dict := some dx, data := .fields fv } →
      h'.Ns1 dx (fun y => if y = f then some v else none) → Rs (.ok (.ret .none)) ⟨h', gs, dn, tk', so⟩) :
    codeAny (model P wd) Ar (.call (.builtin "object.__setattr__") ⟨[.ref x, .str f tk, v], []⟩) Rs ⟨hp, gs, dn, t, so⟩ := by
  have xs : x ≠ hp.objs.size := Nat.ne_of_lt (Heap.lt_size hx)
  obtain ⟨cd, hc, hd'⟩ := any_some hd
  have lc : Looks (model P wd) hp (classData C) cd := looks_clsIn X hc
  refine osa_openX (od := none) (r := none) SF X ⟨hx, rfl, rfl, trivial⟩ ho (by unfold takerIn; rw [ha]; rfl) fun b => ?_
  obtain ⟨nm, bs, mro, ns, qn, hd2, sn, sb, ab, col, del⟩ := cd
  dsimp only at hd'
  subst hd'
  show wpAny _ _ (storeInOwnDict (.ref x) (.ref C) (.str f tk) f v b) _ _ _
  unfold storeInOwnDict ownDictForStores
  repeat (first | with_reducible refine store_in_new ?_ ?_ | with_reducible refine wpAny_loadPart_at hx ?_ | with_reducible refine lc.at ?_ | wp_step)
  · exact ⟨_, #[], _, (Heap.get?_update_ne _ _ _ _ xs.symm).trans (Heap.get?_push_at rfl rfl), rfl, fun e he => absurd he (by simp), fun _ => rfl⟩
  · intro h' tk' hn hs
    have hx1 : (hp.push { cls := .type "dict", data := .dict #[] }).get? x = some { cls := .ref C, data := .fields fv } := Heap.get?_push_of_some _ hx
    refine hq h' tk' hp.objs.size (fun b o nb q => ?_) (Nat.le_refl _) xs.symm ((hs.2 x xs).trans (Heap.get?_update_self _ hx1 rfl)) hn
    exact (hs.2 b (Nat.ne_of_lt (Heap.lt_size q))).trans ((Heap.get?_update_ne _ _ _ _ nb).trans (Heap.get?_push_of_some _ q))
end OX
end PySem

set_option Elab.async false
set_option linter.all false
set_option maxRecDepth 100000
set_option maxHeartbeats 4000000
namespace DL
open PySem PySem.Spec L2 PyProof.Rows
/-- a built-in class that own exceptions stand under -/
structure BaseX (B O newId initId : String) (bm : List Value) : Prop where
  n : OX.NewF O newId bm
  i : OX.InitF B initId bm
  s : StoreFacts B bm "object.__setattr__" "object"
  ty : typeOf (.type B) = pure (.type "type")
  boot : bootBuiltins B = some (.type B)
  nn : (Str.ofString B) ≠ "__name__"
  nd : ((Str.ofString B) == ("__debug__" : Str)) = false
  stub : Manifest.isStub B = false
  hand : PySem.W.handedIn (.builtin initId) = true
theorem bx_ValueError : BaseX "ValueError" "ValueError" "ValueError.__new__" "ValueError.__init__" [.type "ValueError", .type "Exception", .type "BaseException", .type "object"] := ⟨.of F.excBase_ValueError, .of F.excBase_ValueError, F.store_ValueError, by kernel_rfl, by decide +kernel, by decide, by decide, by decide +kernel, by decide +kernel⟩
theorem bx_KeyError : BaseX "KeyError" "LookupError" "LookupError.__new__" "KeyError.__init__" [.type "KeyError", .type "LookupError", .type "Exception", .type "BaseException", .type "object"] := ⟨OX.tail_KeyError_new, OX.tail_KeyError_init, OX.store_KeyError, by kernel_rfl, by decide +kernel, by decide, by decide, by decide +kernel, by decide +kernel⟩
theorem bx_IndexError : BaseX "IndexError" "IndexError" "IndexError.__new__" "IndexError.__init__" [.type "IndexError", .type "LookupError", .type "Exception", .type "BaseException", .type "object"] := ⟨.of F.excBase_IndexError, .of F.excBase_IndexError, F.store_IndexError, by kernel_rfl, by decide +kernel, by decide, by decide, by decide +kernel, by decide +kernel⟩
theorem bx_LookupError : BaseX "LookupError" "LookupError" "LookupError.__new__" "LookupError.__init__" [.type "LookupError", .type "Exception", .type "BaseException", .type "object"] := ⟨.of F.excBase_LookupError, .of F.excBase_LookupError, F.store_LookupError, by kernel_rfl, by decide +kernel, by decide, by decide, by decide +kernel, by decide +kernel⟩
theorem bx_OverflowError : BaseX "OverflowError" "OverflowError" "OverflowError.__new__" "OverflowError.__init__" [.type "OverflowError", .type "ArithmeticError", .type "Exception", .type "BaseException", .type "object"] := ⟨.of F.excBase_OverflowError, .of F.excBase_OverflowError, F.store_OverflowError, by kernel_rfl, by decide +kernel, by decide, by decide, by decide +kernel, by decide +kernel⟩
/-- what the written part says of the class -/
structure OxC (K : PySem.W.Frag) (C : Addr) (newId : String) (bm : List Value) : Prop where
  cls : ∃ nm q N bs sn sub ab col dd k0 k1 k2 k3 k5, K.lookup C = some (excClassObj nm q C N bs bm true sn sub ab col dd k0 k1 k2 k3 k5 newId)
  sa : PySem.W.findIn K (.ref C) "__setattr__" = some (some (.builtin "object.__setattr__"))
  exC : PySem.W.subIn K (.ref C) (.type "BaseException") = some true
  tyC : PySem.W.typeIn K (.ref C) = some (.type "type")
  kC : PySem.W.keepIn K (.ref C) = true
  ov : PySem.W.excOver K C bm = true
  hd : PySem.W.hasDictIn K C = true
section
variable {X : Cx} {pins : List (Addr × Obj)} {σ : L2.St} {H : Hp} {s : Shared} {a C : Addr} {f : Str} {y : V} {u : Value} {A : Around} {B O newId initId : String} {bm : List Value}
theorem ox_store {Q : Unit → Shared → Prop} {E : Value → Shared → Prop} (b : BaseX B O newId initId bm) (T : OxC X.K C newId bm) (I : Inv X pins σ H s) (e : H a = some (exo a C none)) (hno : PySem.W.findIn X.K (.ref C) f = some none) (ry : RelV y u)
    (h : ∀ dx s', H dx = none → dx ≠ a → Inv X pins σ (upd (upd H dx (exd dx [(f, y)])) a (exo a C (some dx))) s' → Q () s') : wpAny (model X.prog X.w) A (setAttr (.ref a) f u) Q E s := by
  obtain ⟨t1, ho⟩ := exo_at I.hok e
  obtain ⟨hp, gs, dn, tk, so⟩ := s
  refine PySem.W.set_plain I.kIn (ox := { cls := .ref C, dict := none, data := .fields #[.ref t1, .none, .none, .none, .bool false, .none] }) (od := none) ⟨ho, rfl, rfl, trivial⟩ T.sa (OX.first_field b.s I.kIn ho T.ov T.hd hno fun h' tk' dx k dn' dne hx hn => ?_)
  have fresh : H dx = none := I.hok.fresh dn'
  have old : ∀ {c : Addr} {o : Obj}, hp.get? c = some o → c ≠ dx := fun {c o} q => Nat.ne_of_lt (Nat.lt_of_lt_of_le (Heap.lt_size q) dn')
  have nota : ∀ {c : Addr}, H c = none → c ≠ a := fun {c} n z => by rw [z, e] at n; cases n
  have U : Un X.fs [] H (upd (upd H dx (exd dx [(f, y)])) a (exo a C (some dx))) hp h' := {
    keep := fun c o q n _ _ => k c o (nota n) q
    slot := fun c o q n _ _ => ⟨o.slots, k c o (nota n) q⟩
    free := fun c o q n _ => by rw [upd_ne (nota n), upd_ne (old q)]; exact n
    there := fun c o q _ => by
      by_cases hc : c = a
      · subst hc; exact ⟨_, hx⟩
      · exact ⟨o, k c o hc q⟩
    tups := fun c xs q => by rw [upd_ne (at_ne e q exo_tup), upd_ne (ne_of_none q fresh)]; exact q
    frzs := fun c o v q => by rw [upd_ne (at_ne e q exo_frz), upd_ne (ne_of_none q fresh)]; exact q
    tbls := fun c ps q => ⟨#[], by rw [upd_ne (at_ne e q exo_tbl), upd_ne (ne_of_none q fresh), q]; simp⟩ }
  refine h dx _ fresh dne (I.un (t' := tk') U fun c o q => ?_)
  by_cases hc : c = a
  · subst hc
    rw [upd_same] at q
    cases q
    exact exo_ok hx
  rw [upd_ne hc] at q
  by_cases hd : c = dx
  · subst hd
    rw [upd_same] at q
    cases q
    exact exd_ok hn (relO_put (fs := []) ry fun g => True.intro)
  rw [upd_ne hd] at q
  refine (I.hok c o q).stay (fun c' v hc' z => k c' v ?_ z) (fun c' hc' => ?_) (fun c' xs hc' => ?_)
  · rcases hc' with hc' | hc'
    · rw [hc']; exact hc
    · exact at_ne e hc' exo_own
  · rw [upd_ne (at_ne e hc' exo_own), upd_ne (ne_of_none hc' fresh)]; exact hc'
  · rw [upd_ne (at_ne e hc' exo_tup), upd_ne (ne_of_none hc' fresh)]; exact hc'
theorem ox_init {us : List Value} {Q : Value → Shared → Prop} {E : Value → Shared → Prop} (b : BaseX B O newId initId bm) (T : OxC X.K C newId bm) (I : Inv X pins σ H s) (e : H a = some (exo a C none)) (hl : us.length ≤ sizeLine) (h : ∀ s', Inv X pins σ H s' → Q .none s') :
    wpAny (model X.prog X.w) A (call (.builtin initId) (.ref a :: us)) Q E s := by
  obtain ⟨nm, q, N, bs, sn, sub, ab, col, dd, k0, k1, k2, k3, k5, hC⟩ := T.cls
  obtain ⟨t1, ho⟩ := exo_at I.hok e
  obtain ⟨hp, gs, dn, tk, so⟩ := s
  refine wpAny_call (OX.base_init b.i (I.kIn _ _ hC) ho hl fun h' t2 k hx => ?_)
  have J := I.write (t' := tk) (x := a) (e := a) (o := exo a C none) (by rw [e]; exact True.intro) (.inl rfl) k ⟨_, hx⟩ (exo_ok hx)
  rw [show upd H a (exo a C none) = H from by
    funext c
    by_cases hc : c = a
    · rw [hc, upd_same, e]
    · rw [upd_ne hc]] at J
  exact h _ J
end
/-- BASE.__init__(self, ..) -/
def tBI (C : Addr) (ta : TA) : TE := fun σ H Q => ta σ H fun vs H1 => ∃ (a : Addr) (ws : List V), vs = .ref a :: ws ∧ ws.length ≤ 1000 ∧ H1 a = some (exo a C none) ∧ Q .non H1
/-- self.f = e -/
def tOS (C : Addr) (f : Str) (to te : TE) : TS := fun D σ H => te σ H fun y H1 => to σ H1 fun x H2 => ∃ a : Addr, x = .ref a ∧ H2 a = some (exo a C none) ∧ ∀ dx, H2 dx = none → dx ≠ a → D.nx σ (upd (upd H2 dx (exd dx [(f, y)])) a (exo a C (some dx)))
section
variable {X : Cx} {o e : Expr} {es : List Expr} {to te : TE} {ta : TA} {f : Str} {p p' p1 p2 pos : Pos} {C : Addr} {B O newId initId : String} {bm : List Value}
theorem pe_binit {pl : Sem Bool} (b : BaseX B O newId initId bm) (T : OxC X.K C newId bm) (hg : Gl X B) (hm : X.mg B = none) (vV : PySem.W.findCls X.K (.type B) (.type "type") "__init__" = some (.val (.builtin initId))) (ha : PA X (e :: es) ta)
    (hc : eval (.Call (.Attribute (.Name B p1) "__init__" p2) (e :: es) [] pos) X.env = (do
      let ov ← eval (.Name B p1) X.env
      standAt p2.atName
      let (f, first) ← holding [ov] (getMethod ov "__init__" pl)
      callWith pos f first (backTo pos (starEach (e :: es) X.env)) (backToKw pos (keywordEach [] X.env))) := by rfl)
    (he : starEach (e :: es) X.env = (false, eval e X.env) :: starEach es X.env := by rfl) (hpl : (backTo pos (starEach es X.env)).any (·.1) = false := by rfl) :
    PE X (.Call (.Attribute (.Name B p1) "__init__" p2) (e :: es) [] pos) (tBI C ta) := by
  refine ⟨fun pins s σ H Q I h => ?_⟩
  refine PySem.W.methodCall_KW (ld_blt I hg hm b.boot ?_ b.nn b.nd) hc
  obtain ⟨m, fr⟩ := I.fr
  refine PySem.W.method_type fr I.ok.mod.kin b.ty b.stub vV b.hand ?_
  show wpAny _ _ (callWith pos (Value.builtin initId) [] (backTo pos (starEach (e :: es) X.env)) []) _ _ _
  refine PyProof.Rows.callWith_method1 (thn (ha.run pos pins _ σ H _ (I.tok _) h) fun us s1 ⟨vs, H1, I1, r1, a, ws, ev, hl, ea, q⟩ => ?_) he hpl
  subst ev
  cases r1 with
  | @cons _ u0 _ ur ra rr =>
    obtain rfl : u0 = Value.ref a := ra
    exact ox_init b T I1 ea (by rw [← Paired.length rr, sizeLine_eq]; omega) fun s' J => ⟨.non, H1, J, rfl, q⟩
theorem ps_oset (b : BaseX B O newId initId bm) (T : OxC X.K C newId bm) (hno : PySem.W.findIn X.K (.ref C) f = some none) (ho : PE X o to) (he : PE X e te) (hs : swapsWith e (some (.Attribute o f p')) pos.line X.env = pure false := by rfl) : PS X (.Assign [.Attribute o f p'] e pos) (tOS C f to te) := by
  refine ⟨fun pins s σ H D I h => ?_⟩
  refine plainObj_wpAny_Assign_Attribute (thn (he.run pins s σ H _ I h) fun v s1 ⟨y, H1, I1, r1, q1⟩ => thn (ho.run pins s1 σ H1 _ I1 q1) fun u s2 ⟨x, H2, I2, r2, a, ex, ea, q⟩ => ?_) hs
  subst ex
  obtain rfl : u = Value.ref a := r2
  exact ox_store b T I2 ea hno r1 fun dx s' n ne J => ⟨σ, _, J, q dx n ne⟩
/-- what __init__(self, x): BASE.__init__(self, text); self.f = x keeps -/
def spI (C : Addr) (f : Str) : Sp := fun vs H Q _ => ∃ (a : Addr) (y : V), vs = [.ref a, y] ∧ H a = some (exo a C none) ∧ ∀ dx, H dx = none → dx ≠ a → Q .non (upd (upd H dx (exd dx [(f, y)])) a (exo a C (some dx)))
end
/-! ### C(e) -/
theorem exv_ok {P : Program} {w : World} {H : Hp} {h : Heap} {a C d : Addr} {oe : Obj} {vs : Array Value} (he : h.get? a = some oe) (hz : Zc (.ref C) (some d) oe) (hd : oe.data = .fields vs) : ObjOk P w H h a (exv a C d) :=
  ⟨⟨oe, vs, he, hz, hd⟩, ⟨_, he⟩, fun h1 h2 z k => by
    obtain ⟨o, v, q, q2⟩ := z
    exact ⟨o, v, k _ q, q2⟩⟩
theorem exv_at {P : Program} {w : World} {H : Hp} {h : Heap} {a C d : Addr} (hok : HOk P w H h) (he : H a = some (exv a C d)) : ∃ (oe : Obj) (vs : Array Value), h.get? a = some oe ∧ Zc (.ref C) (some d) oe ∧ oe.data = .fields vs := by
  have x : ObjOk P w H h a (.ext fun h => ∃ (oe : Obj) (vs : Array Value), h.get? a = some oe ∧ Zc (.ref C) (some d) oe ∧ oe.data = .fields vs) := hok a _ he
  exact x.1
section
variable {X : Cx} {x xi f : Str} {C fI : Addr} {k : Nat} {fd : FuncData} {e : Expr} {ta : TA} {p pos : Pos} {B O newId initId : String} {bm : List Value}
/-- what an exception's making leaves: at a, its dict at d -/
def Made (X : Cx) (pins : List (Addr × Obj)) (σ : L2.St) (C : Addr) (f : Str) (y : V) (H1 : Hp) (a : Addr) (hp : Heap) (s' : Shared) : Prop :=
  ∃ (d : Addr) (hp2 : Heap), (∃ s2 : Shared, s2.heap = hp2 ∧ s'.os = s2.os ∧ Inv X pins σ (upd H1 a (exo a C none)) s2) ∧ hp.objs.size ≤ a ∧ d ≠ a ∧ H1 d = none ∧ (∀ b o, hp.get? b = some o → hp2.get? b = some o) ∧ Un (frs X.stack) [] (upd H1 a (exo a C none)) (upd (upd (upd H1 a (exo a C none)) d (exd d [(f, y)])) a (exo a C (some d))) hp2 s'.heap ∧
    HOk X.prog X.w (upd (upd (upd H1 a (exo a C none)) d (exd d [(f, y)])) a (exo a C (some d))) s'.heap ∧ AllBare s'.gens
theorem ox_made (b : BaseX B O newId initId bm) (T : OxC X.K C newId bm) (iC : PySem.W.findIn X.K (.ref C) "__init__" = some (some (.ref fI))) (tI : PySem.W.typeIn X.K (.ref fI) = some (.type "function"))
    (F1 : FnOk X.prog X.w X.K X.mg X.base (L2.CX X.prog X.w) k fI fd ["self", xi] (spI C f)) (hr : Room (k + 1) X.A) (hb : Binds X.K fd ["self", xi] []) (hg : Gl X x) (hm : X.mg x = some (.ref C)) (he : PA X [e] ta)
    {pins : List (Addr × Obj)} {s : Shared} {σ : L2.St} {H : Hp} {Q : V → Hp → Prop} {R : Value → Shared → Prop} (I : Inv X pins σ H s) (h : ta σ H fun vs H1 => ∃ y, vs = [y] ∧ Q y H1)
    (fin : ∀ (y : V) (H1 : Hp) (s1 : Shared) (a : Addr) (s' : Shared), Inv X pins σ H1 s1 → Q y H1 → s'.os = s1.os → Made X pins σ C f y H1 a s1.heap s' → R (.ref a) s')
    (hdb : (x == ("__debug__" : Str)) = false := by decide) (hst : starEach [e] X.env = (false, eval e X.env) :: starEach [] X.env := by rfl) (hpl : (backTo pos (starEach [] X.env)).any (·.1) = false := by rfl) :
    wpAny (model X.prog X.w) X.A (eval (.Call (.Name x p) [e] [] pos) X.env) R X.xe s := by
  obtain ⟨nm, q, N, bs, sn, sub, ab, col, dd, k0, k1, k2, k3, k5, hC⟩ := T.cls
  refine wpAny_Call_Name_kw (ld_glob I hg hm ?_ hdb)
  refine PySem.W.callWith_K (h₀ := X.base) I.ok.mod.kin T.kC (thn (he.run pos pins s σ H (fun vs H1 => ∃ y, vs = [y] ∧ Q y H1) I h) fun us s1 ⟨vs, H1, I1, r1, y, ey, q1⟩ => ⟨I1.kIn, ?_⟩) hst hpl
  subst ey
  show wpAny _ _ (call (.ref C) us) _ _ _
  obtain ⟨hp, gs, dn, tk, so⟩ := s1
  have hn : H1 (hp.objs.size + 1) = none := I1.hok.fresh (Nat.le_succ _)
  have kk : ∀ c o, hp.get? c = some o → ((hp.push (PySem.W.kdv_tup us)).push (PySem.HandSPX.excO C hp.objs.size)).get? c = some o := fun c o z => Heap.get?_push_of_some _ (Heap.get?_push_of_some _ z)
  have I2 : Inv X pins σ (upd H1 (hp.objs.size + 1) (exo (hp.objs.size + 1) C none)) ⟨(hp.push (PySem.W.kdv_tup us)).push (PySem.HandSPX.excO C hp.objs.size), gs, dn, tk, so⟩ := I1.laid (t' := tk) (a := hp.objs.size + 1) (o := exo (hp.objs.size + 1) C none) (h' := (hp.push (PySem.W.kdv_tup us)).push (PySem.HandSPX.excO C hp.objs.size)) kk (Nat.le_succ _) (exo_ok (by heap_get))
  have r2 : Vals [V.ref (hp.objs.size + 1), y] (Value.ref (hp.objs.size + 1) :: us) := .cons rfl r1
  have hlen : us.length = 1 := (Paired.length r1).symm
  refine wpAny_call (OX.class_called b.n (I1.kIn _ _ hC) (PySem.W.looks_findIn I1.kIn iC) (fun self => PySem.W.bind_fn I1.kIn self tI) (by rw [hlen]; decide)
    (codeAny_mono (F1.run _ X.stack _ _ ⟨Value.ref (hp.objs.size + 1) :: us, []⟩ (Value.ref (hp.objs.size + 1) :: us) _ (fun v H2 => v = .non ∧ ∃ d, d ≠ hp.objs.size + 1 ∧ H1 d = none ∧ H2 = upd (upd (upd H1 (hp.objs.size + 1) (exo (hp.objs.size + 1) C none)) d (exd d [(f, y)])) (hp.objs.size + 1) (exo (hp.objs.size + 1) C (some d))) (fun _ _ _ => False) (hr.make C us []) (I2.env0.make C us []) ?_ r2 ?_) fun r s' hq' => ?_))
  · have z := hb _ (Value.ref (hp.objs.size + 1) :: us) I2.kIn (by simp [hlen])
    simpa using z
  · refine ⟨hp.objs.size + 1, y, rfl, upd_same, fun dx n ne => ⟨rfl, dx, ne, ?_, rfl⟩⟩
    rw [upd_ne ne] at n
    exact n
  · cases r with
    | error er => exact (cx_none hq').elim
    | ok fl =>
      cases fl with
      | ret u =>
        obtain ⟨v, H2, os2, bare2, un2, hok2, rv, ev, d, hda, hd1, e2⟩ := hq'
        subst ev
        subst e2
        exact ⟨rv, fin y H1 _ _ s' I1 q1 os2 ⟨d, _, ⟨_, rfl, os2, I2⟩, Nat.le_succ _, hda, hd1, kk, un2, hok2, bare2⟩⟩
      | next => exact False.elim hq'
      | brk => exact False.elim hq'
      | cont => exact False.elim hq'
/-- raised: C(e) -/
def tMkX (C : Addr) (f : Str) (ta : TA) : L2.St → Hp → XK → Prop := fun σ H Q => ta σ H fun vs H1 => ∃ y, vs = [y] ∧ ∀ d, H1 d = none → Q (.ref C) (some d) (upd H1 d (.xd [(f, y)]))
/-- held: C(e) -/
def tMkV (C : Addr) (f : Str) (ta : TA) : TE := fun σ H Q => ta σ H fun vs H1 => ∃ y, vs = [y] ∧ ∀ a d, H1 a = none → H1 d = none → d ≠ a → Q (.ref a) (upd (upd H1 d (.xd [(f, y)])) a (exv a C d))
theorem pmk_ox (b : BaseX B O newId initId bm) (T : OxC X.K C newId bm) (iC : PySem.W.findIn X.K (.ref C) "__init__" = some (some (.ref fI))) (tI : PySem.W.typeIn X.K (.ref fI) = some (.type "function"))
    (F1 : FnOk X.prog X.w X.K X.mg X.base (L2.CX X.prog X.w) k fI fd ["self", xi] (spI C f)) (hr : Room (k + 1) X.A) (hb : Binds X.K fd ["self", xi] []) (hg : Gl X x) (hm : X.mg x = some (.ref C)) (he : PA X [e] ta)
    (hdb : (x == ("__debug__" : Str)) = false := by decide) (hst : starEach [e] X.env = (false, eval e X.env) :: starEach [] X.env := by rfl) (hpl : (backTo pos (starEach [] X.env)).any (·.1) = false := by rfl) :
    PMk X (.Call (.Name x p) [e] [] pos) (tMkX C f ta) := by
  intro pins s σ H Q I h
  refine ox_made b T iC tI F1 hr hb hg hm he I h (fun y H1 s1 a s' I1 q ho hM => ?_) hdb hst hpl
  obtain ⟨d, hp2, ⟨s2, e2, os2, I2⟩, ha, hda, hd1, kk, un, hok, bare⟩ := hM
  obtain ⟨hp, gs, dn, tk, so⟩ := s1
  obtain ⟨h2, g2, d2, t2, o2⟩ := s'
  have hn : H1 a = none := I1.hok.fresh ha
  refine mk_end (raises_own T.exC T.tyC) I1 ha kk un hok ho bare upd_same (by rw [upd_ne hda, upd_same]) hd1 ?_
  rw [show upd (del (upd (upd (upd H1 a (exo a C none)) d (exd d [(f, y)])) a (exo a C (some d))) a) d (.xd [(f, y)]) = upd H1 d (.xd [(f, y)]) from ?_]
  · exact q d hd1
  · funext c
    by_cases hc : c = d
    · rw [hc, upd_same, upd_same]
    · rw [upd_ne hc, upd_ne hc]
      by_cases hca : c = a
      · rw [hca, del_same, hn]
      · rw [del_ne hca, upd_ne hca, upd_ne hc, upd_ne hca]
theorem pe_ox (b : BaseX B O newId initId bm) (T : OxC X.K C newId bm) (iC : PySem.W.findIn X.K (.ref C) "__init__" = some (some (.ref fI))) (tI : PySem.W.typeIn X.K (.ref fI) = some (.type "function"))
    (F1 : FnOk X.prog X.w X.K X.mg X.base (L2.CX X.prog X.w) k fI fd ["self", xi] (spI C f)) (hr : Room (k + 1) X.A) (hb : Binds X.K fd ["self", xi] []) (hg : Gl X x) (hm : X.mg x = some (.ref C)) (he : PA X [e] ta)
    (hdb : (x == ("__debug__" : Str)) = false := by decide) (hst : starEach [e] X.env = (false, eval e X.env) :: starEach [] X.env := by rfl) (hpl : (backTo pos (starEach [] X.env)).any (·.1) = false := by rfl) :
    PE X (.Call (.Name x p) [e] [] pos) (tMkV C f ta) := by
  refine ⟨fun pins s σ H Q I h => ?_⟩
  refine ox_made b T iC tI F1 hr hb hg hm he I h (fun y H1 s1 a s' I1 q ho hM => ?_) hdb hst hpl
  obtain ⟨d, hp2, ⟨s2, e2, os2, I2⟩, ha, hda, hd1, kk, un, hok, bare⟩ := hM
  have hn : H1 a = none := I1.hok.fresh ha
  refine ⟨.ref a, _, ?_, rfl, q a d hn hd1 hda⟩
  subst e2
  have J := I2.call' (ch := []) os2 un hok bare (fun c z => absurd z (by simp))
  have ea : (upd (upd (upd H1 a (exo a C none)) d (exd d [(f, y)])) a (exo a C (some d))) a = some (exo a C (some d)) := upd_same
  have ed : (upd (upd (upd H1 a (exo a C none)) d (exd d [(f, y)])) a (exo a C (some d))) d = some (exd d [(f, y)]) := by rw [upd_ne hda, upd_same]
  generalize hH : (upd (upd (upd H1 a (exo a C none)) d (exd d [(f, y)])) a (exo a C (some d))) = H2 at J ea ed
  obtain ⟨t0, hoe⟩ := exo_at J.hok ea
  obtain ⟨mA, hns, rel⟩ := exd_at J.hok ed
  have J1 := J.write (t' := s'.toks) (x := a) (e := a) (o := exv a C d) (by rw [ea]; exact True.intro) (.inl rfl) (fun c u _ z => z) ⟨_, hoe⟩ (exv_ok hoe ⟨rfl, rfl⟩ rfl)
  have J2 := J1.write (t' := s'.toks) (x := d) (e := d) (o := .xd [(f, y)]) (by rw [upd_ne hda, ed]; exact True.intro) (.inl rfl) (fun c u _ z => z) (by
    obtain ⟨o, _, _, e', _⟩ := hns
    exact ⟨o, e'⟩) ⟨mA, hns, rel⟩
  rw [show upd (upd H1 d (.xd [(f, y)])) a (exv a C d) = upd (upd H2 a (exv a C d)) d (.xd [(f, y)]) from ?_]
  · exact J2
  · rw [← hH]
    funext c
    by_cases hc : c = d
    · rw [hc, upd_ne hda, upd_same, upd_same]
    · rw [upd_ne hc]
      by_cases hca : c = a
      · rw [hca, upd_same, upd_same]
      · rw [upd_ne hca, upd_ne hca, upd_ne hc, upd_ne hca, upd_ne hc, upd_ne hca]
end
end DL

set_option Elab.async false
set_option linter.all false
set_option maxRecDepth 100000
set_option maxHeartbeats 4000000
namespace DL
open PySem PySem.Spec L2 PyProof.Rows
section
variable {X : Cx} {Wx : WX} {e : Expr} {pos p : Pos}
/-- the exception at a, in the heap -/
theorem exv_inst {pins : List (Addr × Obj)} {σ : L2.St} {H : Hp} {s : Shared} {a C d : Addr} {fs : List (Str × V)} (I : Inv X pins σ H s) (ea : H a = some (exv a C d)) (ed : H d = some (.xd fs)) :
    ∃ (oe od : Obj), PySem.W.InstAt s.heap a oe C (some od) ∧ ∀ (f : Str) (v : V), fs.lookup f = some v → ∃ u, RelV v u ∧ PySem.W.lookIn f od = some (some u) := by
  obtain ⟨oe, vs, ho, hz, hd⟩ := exv_at I.hok ea
  have hx : ObjOk X.prog X.w H s.heap d (.xd fs) := I.hok d _ ed
  obtain ⟨mA, hns, hr⟩ := hx
  obtain ⟨od, hod, hl⟩ := lookIn_ns hns
  refine ⟨oe, od, ⟨ho, hz.1, by unfold PySem.W.notCls; rw [hd] <;> rfl, by rw [hz.2]; exact hod⟩, fun f v l => ?_⟩
  obtain ⟨u, hu, ru⟩ := RelO.some_of (v := v) (o := mA f) (by rw [← l]; exact hr f)
  exact ⟨u, ru, by rw [hl, hu]⟩
def tFld (K : PySem.W.Frag) (f : Str) (te : TE) : TE := fun σ H Q => te σ H fun x H1 => ∃ (a C d : Addr) (fs : List (Str × V)) (v : V), x = .ref a ∧ H1 a = some (exv a C d) ∧ H1 d = some (.xd fs) ∧ fs.lookup f = some v ∧ XfC K C ∧ PySem.W.findIn K (.ref C) f = some none ∧ Q v H1
theorem pe_fld {te : TE} {f : Str} (he : PE X e te) (hb : attributeBase e f X.env (eval e X.env) = eval e X.env := by rfl) : PE X (.Attribute e f pos) (tFld X.K f te) := by
  refine ⟨fun pins s σ H Q I h => ?_⟩
  refine attr_of hb (thn (he.run pins s σ H _ I h) fun u s1 ⟨x, H1, I1, rx, a, C, d, fs, v, ex, ea, ed, l, T, hno, q⟩ => ?_)
  subst ex
  obtain rfl : u = Value.ref a := rx
  obtain ⟨oe, od, J, look⟩ := exv_inst I1 ea ed
  obtain ⟨u, ru, hu⟩ := look f v l
  exact HandSPX.exc_get I1.kIn J T.ga T.gg T.exC (PySem.W.findObj_own T.hdC hno rfl hu) (handed_of ru) ⟨v, H1, I1.tok _, ru, q⟩
/-- e.f, of an exception of one of the classes cs -/
def fFld (cs : List Str) (f : Str) (fe : FE) : FE := fun d S => (fe d S).bind fun u S1 => match u with
  | .exc c g v => if cs.contains c && decide (g = f) then .ok v S1 else .bad
  | _ => .bad
theorem se_fld {cs : List Str} {f : Str} {fe : FE} (he : SimE X Wx e fe) (hc : ∀ c ∈ cs, ∀ C, X.mg c = some (.ref C) → XfC X.K C ∧ PySem.W.findIn X.K (.ref C) f = some none) (hb : attributeBase e f X.env (eval e X.env) = eval e X.env := by rfl) : SimE X Wx (.Attribute e f pos) (fFld cs f fe) := by
  obtain ⟨t, pt, he⟩ := he.out
  refine SimE.mk (pe_fld pt hb) (fun w d σ Q s e h => ?_)
  refine he w d σ _ s e ((Pst.of_bind h).mono (fun u S1 h1 w1 v eS st s1 r => ?_) fun _ _ q => q)
  subst eS
  cases r with
  | @exc a d C v c g u ha hd hm rv =>
    have h9 : Pst (if cs.contains c && decide (g = f) then .ok u w1.S else .bad) (OkE X w Q) (XPost X Wx σ w) := h1
    clear h1
    cases hb : cs.contains c && decide (g = f) with
    | false => rw [hb] at h9; exact h9.elim
    | true =>
      rw [hb, if_pos rfl] at h9
      rw [Bool.and_eq_true] at hb
      obtain ⟨h2, h3⟩ := hb
      have h3 := of_decide_eq_true h3
      subst h3
      obtain ⟨T, hno⟩ := hc c (List.contains_iff_mem.mp h2) C hm
      exact ⟨a, C, d, _, v, rfl, ha, hd, by simp [List.lookup], T, hno, h9 w1 v rfl st s1 rv⟩
  | _ => exact h1.elim

/-! ### isinstance of exceptions -/
def rIsX (K : PySem.W.Frag) : List V → Hp → VK → Prop := fun xs H Q => ∃ (a C d : Addr) (fs : List (Str × V)) (c : V) (cv : Value) (b : Bool), xs = [.ref a, c] ∧ H a = some (exv a C d) ∧ H d = some (.xd fs) ∧ ExcC K C ∧ (∀ u, RelV c u → u = cv) ∧ PySem.W.kitOne K (.ref C) cv = some b ∧ Q (.bl b) H
theorem call_isX : CallR X (.builtin "isinstance") (rIsX X.K) := by
  intro pins s σ H xs us Q I r h
  obtain ⟨a, C, d, fs, c, cv, b, rfl, ea, ed, T, hcv, hk, q⟩ := h
  cases r with
  | cons rx rr =>
    cases rr with
    | cons rt rr =>
      cases rr
      cases rx
      obtain rfl := hcv _ rt
      obtain ⟨oe, od, J, _⟩ := exv_inst I ea ed
      obtain ⟨cd, hcd, _⟩ := PySem.W.any_some T.hd
      exact PySem.W.kia_one (PySem.W.kitx_exc (by rw [hcd]; rfl) T.hg T.hk T.hs T.ha T.hn T.ht T.hm) I.kIn J hk (fun z => nomatch z) fun tk => ⟨.bl b, H, I.kept (t' := tk) fun _ _ z => z, rfl, q⟩
/-- a table: the class, what is asked, the answer -/
abbrev IsTab := List ((Str × (Str ⊕ String)) × Bool)
def lookI : IsTab → Str → Str ⊕ String → Option Bool
  | [], _, _ => none
  | ((c, k), b) :: r, x, y => if c = x ∧ k = y then some b else lookI r x y
def askI : U → Option (Str ⊕ String)
  | .cl c => some (.inl c)
  | .ty n => some (.inr n)
  | _ => none
def isxC (tab : IsTab) (us : List U) (S : Sto) : R U := match us with
  | [.exc c _ _, y] => match (askI y).bind (lookI tab c) with
    | some b => .ok (.bl b) S
    | none => .bad
  | us => isiC us S
/-- that the table is right -/
structure IsOk (K : PySem.W.Frag) (mg : Str → Option Value) (tab : IsTab) : Prop where
  own : ∀ c c2 b, lookI tab c (.inl c2) = some b → ∀ C C2, mg c = some (.ref C) → mg c2 = some (.ref C2) → ExcC K C ∧ PySem.W.kitOne K (.ref C) (.ref C2) = some b
  blt : ∀ c n b, lookI tab c (.inr n) = some b → ∀ C, mg c = some (.ref C) → ExcC K C ∧ PySem.W.kitOne K (.ref C) (.type n) = some b
theorem cs_isx {tab : IsTab} (T : IsOk X.K X.mg tab) : CallSim X (.builtin "isinstance") (isxC tab) := by
  obtain ⟨r, hr, hn, hs⟩ := cs_isi (X := X)
  refine ⟨_, call_isX.or hr, fun us S => ?_, fun w us vs Q s rs h => ?_⟩
  · unfold isxC
    split
    · split <;> trivial
    · exact hn _ S
  · unfold isxC at h
    split at h
    · rename_i c g v y
      split at h
      · rename_i b hb
        left
        obtain ⟨k, hk, hl⟩ := Option.bind_eq_some_iff.mp hb
        cases rs with
        | cons r1 rs =>
          cases rs with
          | cons r2 rs =>
            cases rs
            cases r1 with
            | @exc a d C _ _ _ _ ha hd hm rv =>
              cases r2 with
              | @cl C2 c2 hm2 =>
                cases hk
                obtain ⟨E, q⟩ := T.own c c2 b hl C C2 hm hm2
                exact ⟨a, C, d, _, _, .ref C2, b, rfl, ha, hd, E, fun u z => z, q, OkE.here h s (.bl b)⟩
              | ty n =>
                cases hk
                obtain ⟨E, q⟩ := T.blt c n b hl C hm
                exact ⟨a, C, d, _, _, .type n, b, rfl, ha, hd, E, fun u z => z, q, OkE.here h s (.bl b)⟩
              | _ => cases hk
      · exact h.elim
    · right
      exact hs w _ vs Q s rs h
/-- an own class, by its name -/
theorem se_cl {x : Str} {C : Addr} (hg : Gl X x) (hm : X.mg x = some (.ref C)) (hd : (x == ("__debug__" : Str)) = false := by decide) : SimE X Wx (.Name x pos) (fC (.cl x)) :=
  se_glob hg hm (v := .ref C) rfl (fun w => .cl hm) hd

/-! ### made, raised -/
variable {x xi f : Str} {C fI : Addr} {k : Nat} {fd : FuncData} {B O newId initId : String} {bm : List Value}
def fMkx (c f : Str) (fa : FA) : FE := fun d S => (fa d S).bind fun us S1 => match us with
  | [u] => .ok (.exc c f u) S1
  | _ => .bad
def fRaise (c f : Str) (fa : FA) : FS := fun d S => toS d (fa d S) fun us S1 => match us with
  | [u] => .ok (.ex ⟨c, f, u⟩ d) S1
  | _ => .bad
/-- all that is told of an own exception class -/
structure ExcOk (P : Program) (w : World) (K : PySem.W.Frag) (mg : Str → Option Value) (base : Heap) (k : Nat) (x f : Str) : Prop where
  ex : ∃ (C fI : Addr) (xi : Str) (fd : FuncData) (B O newId initId : String) (bm : List Value), BaseX B O newId initId bm ∧ OxC K C newId bm ∧ PySem.W.findIn K (.ref C) "__init__" = some (some (.ref fI)) ∧ PySem.W.typeIn K (.ref fI) = some (.type "function") ∧
    FnOk P w K mg base (L2.CX P w) k fI fd ["self", xi] (spI C f) ∧ Binds K fd ["self", xi] [] ∧ mg x = some (.ref C)
theorem se_mkx {fa : FA} (T : ExcOk X.prog X.w X.K X.mg X.base k x f) (hr : Room (k + 1) X.A) (hg : Gl X x) (ha : SimA X Wx [e] fa)
    (hdb : (x == ("__debug__" : Str)) = false := by decide) (hst : starEach [e] X.env = (false, eval e X.env) :: starEach [] X.env := by rfl) (hpl : (backTo pos (starEach [] X.env)).any (·.1) = false := by rfl) : SimE X Wx (.Call (.Name x p) [e] [] pos) (fMkx x f fa) := by
  obtain ⟨C, fI, xi, fd, B, O, newId, initId, bm, b, T1, iC, tI, F1, hb, hm⟩ := T.ex
  obtain ⟨ta, pa, ha⟩ := ha.out
  refine SimE.mk (pe_ox b T1 iC tI F1 hr hb hg hm pa hdb hst hpl) (fun w d σ Q s e h => ?_)
  refine ha w d σ _ s e ((Pst.of_bind h).mono (fun us S1 h1 w1 vs eS st s1 rs => ?_) fun _ _ q => q)
  subst eS
  cases rs with
  | nil => exact h1.elim
  | cons r rs =>
    cases rs with
    | cons _ _ => exact h1.elim
    | nil =>
      rename_i u v
      refine ⟨v, rfl, fun a dd na nd hda => ?_⟩
      have st1 := Stp.new s1 (o := .xd [(f, v)]) nd
      have s2 : SR (KMof X) (w1.new dd (.xd [(f, v)])) := s1.new nd
      have na' : (w1.new dd (.xd [(f, v)])).H a = none := by show upd w1.H dd _ a = none; rw [upd_ne (Ne.symm hda)]; exact na
      have st2 := Stp.new s2 (o := exv a C dd) na'
      refine h1 ((w1.new dd (.xd [(f, v)])).new a (exv a C dd)) (.ref a) rfl (st.trans (st1.trans st2)) (s2.new na') ?_
      refine .exc (d := dd) (C := C) (v := v) upd_same ?_ hm ((r.ext st1.x s1).ext st2.x s2)
      show upd (upd w1.H dd _) a _ dd = _
      rw [upd_ne hda, upd_same]
theorem ss_raise {fa : FA} {rp : Pos} (T : ExcOk X.prog X.w X.K X.mg X.base k x f) (hr : Room (k + 1) X.A) (hcalm : X.calm = true) (tk : Takes X Wx) (hg : Gl X x) (ha : SimA X Wx [e] fa)
    (hdb : (x == ("__debug__" : Str)) = false := by decide) (hst : starEach [e] X.env = (false, eval e X.env) :: starEach [] X.env := by rfl) (hpl : (backTo pos (starEach [] X.env)).any (·.1) = false := by rfl) : SimS X Wx (.Raise (some (.Call (.Name x p) [e] [] pos)) none rp) (fRaise x f fa) := by
  obtain ⟨C, fI, xi, fd, B, O, newId, initId, bm, b, T1, iC, tI, F1, hb, hm⟩ := T.ex
  obtain ⟨ta, pa, ha⟩ := ha.out
  refine SimS.mk (ps_raise hcalm tk (pmk_ox b T1 iC tI F1 hr hb hg hm pa hdb hst hpl)) (fun w d σ D s e h => ?_)
  refine ha w d σ _ s e ((toS_post s e h).mono (fun us S1 h1 w1 vs eS st s1 rs => ?_) fun _ _ q => q)
  subst eS
  cases rs with
  | nil => exact h1.elim
  | cons r rs =>
    cases rs with
    | cons _ _ => exact h1.elim
    | nil =>
      rename_i u v
      refine ⟨v, rfl, fun dd nd => ?_⟩
      have st1 := Stp.new s1 (o := .xd [(f, v)]) nd
      have s2 : SR (KMof X) (w1.new dd (.xd [(f, v)])) := s1.new nd
      exact h1 (w1.new dd (.xd [(f, v)])) rfl (st.trans st1) s2 σ ((e.ext st.x s).ext st1.x s1) (.ref C) (some dd) ⟨hm, dd, v, rfl, upd_same, r.ext st1.x s1⟩
end
end DL

set_option Elab.async false
set_option linter.all false
set_option maxRecDepth 100000
set_option maxHeartbeats 4000000
namespace DL
open PySem PySem.Spec L2 PyProof.Rows
section
variable {X : Cx} {pins : List (Addr × Obj)} {σ : L2.St} {H : Hp} {s : Shared}
/-- a caught exception is told to the abstract heap -/
theorem adopt (I : Inv X pins σ H s) {a C d : Addr} {oe : Obj} {vs : Array Value} (na : H a = none) (h0 : X.s_0.heap.get? a = none) (ha : s.heap.get? a = some oe) (hd : oe.data = .fields vs) (hz : Zc (.ref C) (some d) oe) (nL : a ≠ X.env.locals) (np : ∀ q ∈ X.pn ++ pins, q.1 ≠ a) :
    Inv X pins σ (upd H a (exv a C d)) s := by
  have old : ∀ {b : Addr} {o : Obj}, X.s_0.heap.get? b = some o → b ≠ a := fun {b o} q z => by rw [z, h0] at q; cases q
  have tr : ∀ {b : Addr} {o : HO}, H b = some o → b ≠ a := fun {b o} q z => by rw [z, na] at q; cases q
  refine ⟨I.ok, I.os, I.bare, ⟨I.base.keep, I.base.slot, fun b o q n x => ?_, I.base.there, fun b xs q => ?_, fun b o u q => ?_, fun b ps q => ?_⟩, I.loc, I.cell, ?_, fun x c hc => ?_, fun q hq => ?_, fun b o q => ?_, I.len⟩
  · rw [upd_ne (old q)]; exact I.base.free b o q n x
  · have z := I.base.tups b xs q; rw [upd_ne (tr z)]; exact z
  · have z := I.base.frzs b o u q; rw [upd_ne (tr z)]; exact z
  · obtain ⟨m, z⟩ := I.base.tbls b ps q; exact ⟨m, by rw [upd_ne (tr z)]; exact z⟩
  · rw [upd_ne (Ne.symm nL)]; exact I.free
  · have hca : c ≠ a := fun z => by
      obtain ⟨v, hv⟩ := I.cell x c hc
      rw [z] at hv
      obtain ⟨oc, ho, hdc⟩ := hv
      rw [ha] at ho
      cases ho
      rw [hd] at hdc
      cases hdc
    rw [upd_ne hca]; exact I.freeC x c hc
  · obtain ⟨h1, h2, h3⟩ := I.pin q hq
    exact ⟨h1, by rw [upd_ne (np q hq)]; exact h2, h3⟩
  · by_cases hb : b = a
    · subst hb
      rw [upd_same] at q
      cases q
      exact exv_ok ha hz hd
    · rw [upd_ne hb] at q
      exact (I.hok b o q).stay (fun c u _ z => z) (fun c hc => by rw [upd_ne (tr hc)]; exact hc) (fun c xs hc => by rw [upd_ne (tr hc)]; exact hc)
theorem suite0 (I : Inv X pins σ H s) (a : Addr) : Inv (X.suite a (X.pn ++ pins)) [] σ H s :=
  ⟨I.ok.suite _ _, I.os, I.bare, I.base, I.loc, I.cell, I.free, I.freeC, fun q hq => I.pin q (by rw [List.append_nil] at hq; exact hq), I.hok, I.len⟩
theorem unsuite0 {a : Addr} {pn' : List (Addr × Obj)} (I : Inv (X.suite a (X.pn ++ pins)) pn' σ H s) (ok : X.Ok) : Inv X pins σ H s :=
  ⟨ok, I.os, I.bare, I.base, I.loc, I.cell, I.free, I.freeC, fun q hq => I.pin q (List.mem_append_left _ hq), I.hok, I.len⟩
end
/-- what 'except x as n' wishes: the exception is held at a, in slot i -/
def wTry (K : PySem.W.Frag) (c : Value) (i : Nat) (ts : Addr → TS) (Wout : WX) (D : Ends) : WX := fun cls d σ H =>
  ∃ b, PySem.W.exmOne K cls c = some b ∧ (b = true → ∃ C dd, cls = .ref C ∧ d = some dd ∧ ∀ a, H a = none → ts a { nx := fun σ' H' => D.nx (σ'.set i none) H', rt := D.rt, bk := fun σ' H' => D.bk (σ'.set i none) H', ct := fun σ' H' => D.ct (σ'.set i none) H' } (σ.set i (some (.ref a))) (upd H a (exv a C dd))) ∧
    (b = false → Wout cls d σ H)
section
variable {X : Cx} {x n : Str} {c : Value} {i : Nat} {body suite : List Stmt} {s0 : Stmt} {np pos pos' : Pos} {tb : WX → TS} {ts : Addr → TS} {Wout : WX}
theorem ps_tryX (hs : X.stack = X.env :: X.outer) (hf : X.env.frame = some X.env.locals) (hex : X.ex = []) (hN : X.N.Nodup) (hi : X.N[i]? = some n) (hln : X.env.kindOf n = some .local) (hc : Names X x c) (tk : Takes X Wout)
    (hb : ∀ (W : WX) (pn : List (Addr × Obj)) (xe : Value → Shared → Prop), Takes (X.tr pn xe) W → PassesOwn (model X.prog X.w) X.A X.env xe → PSs (X.tr pn xe) body (tb W))
    (hsu : ∀ (a : Addr) (pn : List (Addr × Obj)), PSs (X.suite a pn) (s0 :: suite) (ts a)) :
    PS X (.Try body [.ExceptHandler (some (.Name x np)) (some n) (s0 :: suite) pos'] [] [] pos) (fun D σ H => tb (wTry X.K c i ts Wout D) D σ H) := by
  refine ⟨fun pins s σ H D I h => ?_⟩
  have ok := I.ok
  have fr1 : X.A.frames = some (X.env :: X.outer) := by rw [ok.frames, hs]
  refine wpAny_Try_except ?_
  refine wpAny_mono ((hb (wTry X.K c i ts Wout D) (X.pn ++ pins) (fun e t1 => wpAny (model X.prog X.w) X.A (noteFrame e X.env) (fun _ t2 => wpAny (model X.prog X.w) X.A (setFlight e none) (fun _ t3 => wpAny (model X.prog X.w) X.A (handleBy e X.env [.ExceptHandler (some (.Name x np)) (some n) (s0 :: suite) pos']) (SP X pins D) X.xe t3) X.xe t2) X.xe t1)
    (fun u s' xx => ?_) PassesOwn.looking).run [] s σ H D (I.toTry _) h) (fun f s1 hsp => ?_) (fun e s1 he => he)
  · obtain ⟨a, G, sI, pins', σ1, H1, cls, d, rfl, J', nb, up, sky, na, os, ag, b, hb1, hyes, hno⟩ := xx
    have J : Inv X pins σ1 H1 sI := J'.ofTry ok
    have sky1 : Sky G (X.env :: X.outer) a (Zc cls d) X.env.locals s'.heap := by rw [← hs]; exact sky
    show wpAny (model X.prog X.w) X.A (noteFrame (.ref a) X.env) _ _ _
    refine Sky.land Zc.steady fr1 hf sky1 fun h3 fl3 up3 => ?_
    have J3 : Inv X pins σ1 H1 { s' with heap := h3 } := J.landed nb fl3.1 (up.trans up3) os ag
    obtain ⟨oe, vs, he, hz, hd⟩ := fl3.there
    have nfr : a ∉ frs (X.env :: X.outer) := fun hm => by
      obtain ⟨_, o', e', hnf⟩ := fl3.2.2.1.mem hm
      rw [he] at e'; cases e'
      exact hnf _ hd
    have nL : a ≠ X.env.locals := fun z => nfr (List.mem_filterMap.mpr ⟨X.env, List.mem_cons_self, by rw [hf, z]⟩)
    have noI : sI.heap.get? a = none := by
      cases q : sI.heap.get? a with
      | none => rfl
      | some o =>
        have z := nb a o q (by rw [hs]; exact nfr)
        rw [fl3.2.1] at z
        cases z
    have no0 : X.s_0.heap.get? a = none := by
      cases q : X.s_0.heap.get? a with
      | none => rfl
      | some o =>
        obtain ⟨o', z⟩ := J.base.there a o q (by rw [hex]; simp)
        rw [noI] at z
        cases z
    have npin : ∀ q ∈ X.pn ++ pins, q.1 ≠ a := fun q hq z => by
      have y := (J.pin q hq).1
      rw [z, noI] at y
      cases y
    have S3 := suite0 J3 a
    refine wpAny_handleBy_cons (codeAny_handlers_test ?_) (by intro q; cases q)
    have LT : PySem.W.Looks (model X.prog X.w) h3 (typeOf (.ref a)) cls := fun A Q E t k q => wpAny_typeOf_ref (k _ _ he) (by rw [hz.1]; exact q)
    have LM := PySem.W.exm_one (M := model X.prog X.w) (J3.kIn) LT hb1
    have test : ∀ {Q : Value → Shared → Prop} {E : Value → Shared → Prop}, Q c { s' with heap := h3 } → wpAny (model X.prog X.w) (X.A.mark (some (.ref a))) (eval (.Name x np) X.env) Q E { s' with heap := h3 } := fun {Q E} q => by
      obtain ⟨hg, hdbg, hm | ⟨hm, hv, hnn⟩⟩ := hc
      · exact ld_glob (X := X.suite a (X.pn ++ pins)) S3 hg hm q hdbg
      · exact ld_blt (X := X.suite a (X.pn ++ pins)) S3 hg hm hv q hnn hdbg
    refine test (LM.here ?_)
    cases b with
    | true =>
      obtain ⟨C, dd, rfl, rfl, ht⟩ := hyes rfl
      refine codeAny_handlers_suite_as (HandSPX.lands_againZ fl3 fun h4 fl4 up4 => ?_)
      have J4 : Inv X pins σ1 H1 { s' with heap := h4 } := J.landed nb fl4.1 ((up.trans up3).trans up4) os ag
      obtain ⟨oe4, vs4, he4, hz4, hd4⟩ := fl4.there
      have S4 := suite0 (adopt J4 na no0 he4 hd4 hz4 nL npin) a
      refine store_ok (X := X.suite a (X.pn ++ pins)) (v := .ref a) S4 hN hi (.inl hln) rfl (fun s5 S5 => ?_) (.inr hln)
      refine wpAny_mono ((hsu a (X.pn ++ pins)).run [] s5 _ _ _ S5 (ht a na)) (fun f s6 hsp => ?_) (fun _ _ z => False.elim z)
      have bye : ∀ {σ6 : L2.St} {H6 : Hp} {Q : Shared → Prop}, Inv (X.suite a (X.pn ++ pins)) [] σ6 H6 s6 → (∀ s7, Inv X pins (σ6.set i none) H6 s7 → Q s7) → wpAny (model X.prog X.w) X.A (do bindName X.env n .none; unbindBehindTheSuite X.env n pos') (fun _ s7 => Q s7) X.xe s6 := fun {σ6 H6 Q} S6 hq => gone_ok (unsuite0 S6 ok) hN hi hln hq
      cases f with
      | next => obtain ⟨σ6, H6, S6, q6⟩ := hsp; exact bye S6 fun s7 J7 => ⟨_, _, J7, q6⟩
      | brk => obtain ⟨σ6, H6, S6, q6⟩ := hsp; exact bye S6 fun s7 J7 => ⟨_, _, J7, q6⟩
      | cont => obtain ⟨σ6, H6, S6, q6⟩ := hsp; exact bye S6 fun s7 J7 => ⟨_, _, J7, q6⟩
      | ret u => obtain ⟨v6, σ6, H6, S6, r6, q6⟩ := hsp; exact bye S6 fun s7 J7 => ⟨_, _, _, J7, r6, q6⟩
    | false =>
      show wpAny _ X.A (handleBy (.ref a) X.env []) _ _ _
      refine wpAny_handleBy_nil ?_
      obtain ⟨k1, k2, k3, oe5, vs5, T5, oT5, ts5, he5, hz5, hd5, h15, hr5⟩ := id fl3
      unfold PySem.passOn
      refine wpAny_bind (wpAny_field he5 hd5 h15 ?_)
      rw [if_neg (show ¬ ((Value.ref T5 == Value.none) = true) from by simp)]
      have last : wpAny (model X.prog X.w) X.A (setFlight (.ref a) X.env.frame) (fun _ t4 => wpAny (model X.prog X.w) X.A (throw (.ref a) : Sem Flow) (SP X pins D) X.xe t4) X.xe { s' with heap := h3 } := by
        rw [hf]
        refine HandSPX.setFlight_upZ fl3 fun h4 hh4 up4 => wpAny_throw (tk _ _ ⟨a, G, sI, pins, σ1, H1, cls, d, rfl, J, nb, (up.trans up3).trans up4, .inr (.inr (by rw [hs]; exact hh4)), na, os, ag, hno rfl⟩)
      first
        | exact wpAny_bind (wpAny_pure (wpAny_bind last))
        | exact wpAny_bind last
  · cases f with
    | next => obtain ⟨σ', H', J', q⟩ := hsp; exact wpAny_execs_nil ⟨σ', H', J'.ofTry ok, q⟩
    | brk => obtain ⟨σ', H', J', q⟩ := hsp; exact ⟨σ', H', J'.ofTry ok, q⟩
    | cont => obtain ⟨σ', H', J', q⟩ := hsp; exact ⟨σ', H', J'.ofTry ok, q⟩
    | ret u => obtain ⟨v, σ', H', J', r, q⟩ := hsp; exact ⟨v, σ', H', J'.ofTry ok, r, q⟩
end
/-! ### try, as a rule of DL -/
/-- m: which classes the clause takes; slot i is the clause's name -/
def fTry (m : Str → Option Bool) (i : Nat) (fb fs : FS) : FS := fun d S => match fb d S with
  | .ok (.ex y d1) S1 => match m y.cls with
    | some true => match fs (d1.set i (some (.exc y.cls y.fld y.arg))) S1 with
      | .ok (.nx d2) S2 => .ok (.nx (d2.set i none)) S2
      | .ok (.rt u) S2 => .ok (.rt u) S2
      | .ok (.bk d2) S2 => .ok (.bk (d2.set i none)) S2
      | .ok (.ct d2) S2 => .ok (.ct (d2.set i none)) S2
      | _ => .bad
    | some false => .ok (.ex y d1) S1
    | none => .bad
  | r => r
section
variable {X : Cx} {Wx : WX} {x n : Str} {c : Value} {i : Nat} {body suite : List Stmt} {s0 : Stmt} {np pos pos' : Pos} {fb fs : FS} {m : Str → Option Bool}
theorem ss_try (hs : X.stack = X.env :: X.outer) (hf : X.env.frame = some X.env.locals) (hex : X.ex = []) (hN : X.N.Nodup) (hi : X.N[i]? = some n) (hln : X.env.kindOf n = some .local) (hc : Names X x c) (tk : Takes X Wx)
    (hm : ∀ z b, m z = some b → ∀ cls, X.mg z = some cls → PySem.W.exmOne X.K cls c = some b ∧ ∃ C, cls = .ref C)
    (hb : ∀ (W : WX) (pn : List (Addr × Obj)) (xe : Value → Shared → Prop), Takes (X.tr pn xe) W → PassesOwn (model X.prog X.w) X.A X.env xe → SimB (X.tr pn xe) W body fb)
    (hsu : ∀ (a : Addr) (pn : List (Addr × Obj)), SimB (X.suite a pn) W0 (s0 :: suite) fs) :
    SimS X Wx (.Try body [.ExceptHandler (some (.Name x np)) (some n) (s0 :: suite) pos'] [] [] pos) (fTry m i fb fs) := by
  refine SimS.mk (ps_tryX (tb := fun W => tS X W fb) (ts := fun _ => tS X W0 fs) hs hf hex hN hi hln hc tk (fun W pn xe h1 h2 => hb W pn xe h1 h2) (fun a pn => hsu a pn)) (fun w d σ D s e h => ?_)
  refine ⟨w, d, rfl, s, e, ?_⟩
  unfold fTry at h
  cases hfb : fb d w.S with
  | bad => rw [hfb] at h; exact h.elim
  | exc y S => rw [hfb] at h; exact h.elim
  | ok fl S1 =>
    rw [hfb] at h
    cases fl with
    | nx d1 => exact h
    | rt u => exact h
    | bk d1 => exact h
    | ct d1 => exact h
    | ex y d1 =>
      intro w1 eS st s1 σ1 e1 cls dd xr
      obtain ⟨hcls, dd', v, rfl, hx, rv⟩ := id xr
      have h : Pst (match m y.cls with
        | some true => match fs (d1.set i (some (.exc y.cls y.fld y.arg))) S1 with
          | .ok (.nx d2) S2 => .ok (.nx (d2.set i none)) S2
          | .ok (.rt u) S2 => .ok (.rt u) S2
          | .ok (.bk d2) S2 => .ok (.bk (d2.set i none)) S2
          | .ok (.ct d2) S2 => .ok (.ct (d2.set i none)) S2
          | _ => .bad
        | some false => .ok (.ex y d1) S1
        | none => .bad) (OkS X Wx w D) (fun _ _ => False) := h
      cases hmy : m y.cls with
      | none => rw [hmy] at h; exact h.elim
      | some b =>
        rw [hmy] at h
        obtain ⟨hk, C, rfl⟩ := hm _ _ hmy _ hcls
        refine ⟨b, hk, fun hbt => ?_, fun hbf => ?_⟩
        · subst hbt
          refine ⟨C, dd', rfl, rfl, fun a na => ?_⟩
          subst eS
          have st1 := Stp.new s1 (o := exv a C dd') na
          have s2 : SR (KMof X) (w1.new a (exv a C dd')) := s1.new na
          have hne : dd' ≠ a := fun z => by rw [z, na] at hx; cases hx
          have rx : VR (KMof X) (w1.new a (exv a C dd')) (.exc y.cls y.fld y.arg) (.ref a) := .exc (d := dd') (C := C) (v := v) upd_same (by show upd w1.H a _ dd' = _; rw [upd_ne hne]; exact hx) hcls (rv.ext st1.x s1)
          refine ⟨w1.new a (exv a C dd'), d1.set i (some (.exc y.cls y.fld y.arg)), rfl, s2, (e1.ext st1.x s1).set i rx, ?_⟩
          show Pst (fs (d1.set i (some (.exc y.cls y.fld y.arg))) w1.S) _ _
          cases hfs : fs (d1.set i (some (.exc y.cls y.fld y.arg))) w1.S with
          | bad => rw [hfs] at h; exact h.elim
          | exc z S => rw [hfs] at h; exact h.elim
          | ok fl S2 =>
            rw [hfs] at h
            intro w3 eS3 st3 s3
            have st4 := (st.trans st1).trans st3
            cases fl with
            | nx d2 => exact fun σ2 e2 => h w3 eS3 st4 s3 (σ2.set i none) (e2.forget i none)
            | rt u => exact fun v2 r2 => h w3 eS3 st4 s3 v2 r2
            | bk d2 => exact fun σ2 e2 => h w3 eS3 st4 s3 (σ2.set i none) (e2.forget i none)
            | ct d2 => exact fun σ2 e2 => h w3 eS3 st4 s3 (σ2.set i none) (e2.forget i none)
            | ex z d2 => exact h.elim
        · subst hbf
          exact h w1 eS st s1 σ1 e1 (.ref C) (some dd') xr
end
end DL

set_option Elab.async false
set_option linter.all false
set_option maxRecDepth 100000
set_option maxHeartbeats 4000000
namespace DL
open PySem PySem.Spec PyProof.Rows L2
/-! ### sets of texts -/
def txtOf (e : Int × Value) : Str := match e.2 with
  | .str k _ => k
  | _ => Str.empty
def TxtE (P : Program) (w : World) (e : Int × Value) : Prop := ∃ k tk, e.2 = Value.str k tk ∧ e.1 = (strKind P w).hash k
/-- the set of texts at a: ks its members, no one twice -/
def SetS (P : Program) (w : World) (h : Heap) (a : Addr) (S : Str → Bool) (n : Nat) : Prop :=
  ∃ o es ep t, h.get? a = some o ∧ o.ExactSet ∧ o.data = .set es ep t ∧ (∀ e ∈ es.toList, TxtE P w e) ∧ (es.toList.map txtOf).Nodup ∧ (∀ k, S k = true ↔ k ∈ es.toList.map txtOf) ∧
    es.size < scanBound ∧ t.fits es.size = true ∧ es.size = n ∧ Ris t.place.toList ∧ (w.params.followText "set-order" = true ∨ t.led = true)
section
variable {P : Program} {w : World} {h h' : Heap} {a : Addr} {S : Str → Bool} {n : Nat}
theorem SetS.at (R : SetS P w h a S n) (k : ∀ o, h.get? a = some o → h'.get? a = some o) : SetS P w h' a S n := by
  obtain ⟨o, es, ep, t, ho, r⟩ := R
  exact ⟨o, es, ep, t, k o ho, r⟩
theorem txt_elems {l : List (Int × Value)} (g : ∀ e ∈ l, TxtE P w e) : ElemsOf (strKind P w) l := fun e he => by
  obtain ⟨k, tk, h1, h2⟩ := g e he
  exact ⟨⟨k, by rw [h1]; exact strKind_is P w k tk, h2⟩, by rw [h1] <;> rfl⟩
theorem txt_is {e : Int × Value} (g : TxtE P w e) (k : Str) : (strKind P w).is k e.2 = true ↔ txtOf e = k := by
  obtain ⟨k0, tk, h1, _⟩ := g
  unfold txtOf
  rw [h1]
  show ((k0 == k) = true) ↔ k0 = k
  exact beq_iff_eq
theorem txt_mem {l : List (Int × Value)} (g : ∀ e ∈ l, TxtE P w e) (k : Str) : k ∈ l.map txtOf ↔ ∃ e ∈ l, (strKind P w).is k e.2 = true := by
  rw [List.mem_map]
  exact ⟨fun ⟨e, he, q⟩ => ⟨e, he, (txt_is (g e he) k).2 q⟩, fun ⟨e, he, q⟩ => ⟨e, he, (txt_is (g e he) k).1 q⟩⟩
theorem SetS.setOf (R : SetS P w h a S n) : h.SetOf (strKind P w) a S n := by
  obtain ⟨o, es, ep, t, ho, hx, hd, g, nd, hm, hb, hf, hn, _⟩ := R
  exact ⟨o, es, ep, t, ho, hx, hd, txt_elems g, fun k => (hm k).trans (txt_mem g k), hb, hf, hn⟩
end
section
variable {P : Program} {w : World} {A : Around} {E : Value → Shared → Prop} {s : Shared} {a : Addr} {S : Str → Bool} {n : Nat}
theorem ss_tail {gw : Bool → Sem Unit} (hg : ∀ (b : Bool) (s1 : Shared) (Q : Unit → Shared → Prop), Q () s1 → wpAny (model P w) A (gw b) Q E s1)
    {o : Obj} {es es1 : Array (Int × Value)} {ep : Nat} {t t2 : SetTable} {S' : Str → Bool} (ho : s.heap.get? a = some o) (hex : o.ExactSet) (hd : o.data = .set es ep t)
    (g1 : ∀ e ∈ es1.toList, TxtE P w e) (nd1 : (es1.toList.map txtOf).Nodup) (m1 : ∀ k, S' k = true ↔ k ∈ es1.toList.map txtOf)
    (hb1 : es1.size < scanBound) (hf2 : t2.fits es1.size = true) (hr : Ris t2.place.toList) (hl : w.params.followText "set-order" = true ∨ t2.led = true) {dummy : Bool} {Rr : Option Bool → Shared → Prop}
    (hR : ∀ h', Heap.SameBut a s.heap h' → SetS P w h' a S' es1.size → Rr (some true) { s with heap := h' }) :
    wpAny (model P w) A (do
        storeSet a es1 t2
        if (!dummy && t2.tooFull) = true then do
            gw (relayAll t2 es1 (SetTable.grown es1.size)).2.2
            storeSet a (relayAll t2 es1 (SetTable.grown es1.size)).1 (relayAll t2 es1 (SetTable.grown es1.size)).2.1
            pure (some true)
          else pure (some true)) Rr E s := by
  refine wpAny_bind (wpAny_storeSet_of ho hd ?_ (fits_of_scanBound hb1))
  have ho1 := store_at (es' := es1) (t' := t2) ho hd
  have sb := Heap.SameBut.update s.heap a (Obj.putSet es1 t2)
  split
  · have p1 := relayAll_perm t2 es1 (SetTable.grown es1.size)
    have p2 := relayAll_fits t2 es1 (SetTable.grown es1.size)
    have p3 := relayAll_ris t2 es1 (SetTable.grown es1.size)
    have p4 := relayAll_led t2 es1 (SetTable.grown es1.size)
    generalize relayAll t2 es1 (SetTable.grown es1.size) = Z at p1 p2 p3 p4 ⊢
    obtain ⟨es2, t3, gave⟩ := Z
    dsimp only at p1 p2 p3 p4 ⊢
    have sz : es2.size = es1.size := by rw [← Array.length_toList, p1.length_eq, Array.length_toList]
    have hb2 : es2.size < scanBound := by rw [sz]; exact hb1
    refine wpAny_bind (hg _ _ _ (wpAny_bind (wpAny_storeSet_of ho1 rfl ?_ (fits_of_scanBound hb2))))
    have ho2 := store_at (es' := es2) (t' := t3) ho1 rfl
    refine wpAny_pure (hR _ (sb.trans (Heap.SameBut.update _ a _)) ⟨_, es2, _, t3, ho2, hex, rfl, fun e he => g1 e (p1.mem_iff.mp he), (p1.map txtOf).nodup_iff.mpr nd1, fun k => (m1 k).trans (p1.map txtOf).mem_iff.symm, hb2, p2, sz, p3, hl.imp id fun z => by rw [p4]; exact z⟩)
  · exact wpAny_pure (hR _ sb ⟨_, es1, _, t2, ho1, hex, rfl, g1, nd1, m1, hb1, hf2, rfl, hr, hl⟩)
theorem ss_add {k : Str} {tk : Tok} {Q : Bool → Shared → Prop} (R : SetS P w s.heap a S n) (room : n + 1 < scanBound)
    (hQ : ∀ h', Heap.SameBut a s.heap h' → SetS P w h' a (fun j => S j || decide (j = k)) (if S k = true then n else n + 1) → Q (!S k) { s with heap := h' }) :
    wpAny (model P w) A (setAddHashed a (.str k tk) ((strKind P w).hash k)) Q E s := by
  obtain ⟨o, es, ep, t, ho, hex, hd, g, nd, hm, hb, hf, hn, hr, hl⟩ := R
  have c1 : (strKind P w).is k (.str k tk) = true := strKind_is P w k tk
  have c2 : (Value.str k tk).scannable = true := rfl
  have c3 : ElemsOf (strKind P w) es.toList := txt_elems g
  unfold setAddHashed setAddHashedIn
  refine wpAny_holding (wpAny_bind (wpAny_setState_of ho hd hf ?_))
  dsimp only
  rw [byScan_of c2 hb c3]
  simp only [↓reduceIte]
  unfold setAddByScan
  refine wpAny_bind (wpAny_bind (wpAny_rule (wpAny_bind (wpAny_setScan_of c1 ho hd hf c3 ?_))))
  cases hfi : List.findIdx? (fun e => (strKind P w).is k e.2) es.toList with
  | some j =>
    dsimp only
    obtain ⟨hj, pj, _⟩ := List.findIdx?_eq_some_iff_getElem.mp hfi
    have hSk : S k = true := (hm k).2 ((txt_mem (P := P) (w := w) g k).2 ⟨es.toList[j], List.getElem_mem hj, pj⟩)
    refine wpAny_pure (wpAny_pure ?_)
    have q := hQ s.heap (Heap.SameBut.refl a s.heap) ⟨o, es, ep, t, ho, hex, hd, g, nd, fun i => by
      rw [Bool.or_eq_true, decide_eq_true_eq, ← hm i]
      exact ⟨fun z => z.elim id (fun e => e ▸ hSk), .inl⟩, hb, hf, by rw [if_pos hSk]; exact hn, hr, hl⟩
    rw [hSk] at q
    exact q
  | none =>
    dsimp only
    have hnk : k ∉ es.toList.map txtOf := fun z => by
      obtain ⟨e, he, q⟩ := (txt_mem (P := P) (w := w) g k).1 z
      have y := List.findIdx?_eq_none_iff.mp hfi e he
      rw [q] at y
      cases y
    have hSk : S k = false := by
      cases q : S k with
      | false => rfl
      | true => exact absurd ((hm k).1 q) hnk
    have gave : ∀ (b : Bool) {s1 : Shared} {Q1 : Unit → Shared → Prop}, Q1 () s1 → wpAny (model P w) A (match b with | true => rule "set.scan.the-table-gave-way" | false => pure ()) Q1 E s1 := fun b s1 Q1 q => by cases b <;> first | exact wpAny_pure q | exact wpAny_rule q
    have p1 := layNew_perm t es ((strKind P w).hash k) (.str k tk)
    have p2 := layNew_fits t es ((strKind P w).hash k) (.str k tk)
    have p3 := layNew_ris t es ((strKind P w).hash k) (.str k tk) hr
    have p4 := layNew_led t es ((strKind P w).hash k) (.str k tk)
    generalize layNew t es ((strKind P w).hash k) (.str k tk) = Z at p1 p2 p3 p4 ⊢
    obtain ⟨es1, t1, dummy, gv⟩ := Z
    dsimp only at p1 p2 p3 p4 ⊢
    rw [Array.toList_push] at p1
    have pc : es1.toList.Perm (((strKind P w).hash k, Value.str k tk) :: es.toList) := p1.trans (List.perm_append_singleton _ _)
    have pk : (es1.toList.map txtOf).Perm (k :: es.toList.map txtOf) := pc.map txtOf
    have g1 : ∀ e ∈ es1.toList, TxtE P w e := fun e he => by
      rcases List.mem_cons.mp (pc.mem_iff.mp he) with z | z
      · rw [z]; exact ⟨k, tk, rfl, rfl⟩
      · exact g e z
    have nd1 : (es1.toList.map txtOf).Nodup := pk.nodup_iff.mpr (List.nodup_cons.mpr ⟨hnk, nd⟩)
    have m1 : ∀ i, (S i || decide (i = k)) = true ↔ i ∈ es1.toList.map txtOf := fun i => by
      rw [Bool.or_eq_true, decide_eq_true_eq, hm i, pk.mem_iff, List.mem_cons]
      exact Or.comm
    have sz : es1.size = n + 1 := by rw [← Array.length_toList, pc.length_eq, List.length_cons, Array.length_toList, hn]
    have hb1 : es1.size < scanBound := by rw [sz]; exact room
    have ld : w.params.followText "set-order" = true ∨ t1.led = true := hl.imp id fun z => by rw [p4]; exact z
    have fin : ∀ h', Heap.SameBut a s.heap h' → SetS P w h' a (fun j => S j || decide (j = k)) es1.size → Q true { s with heap := h' } := fun h' sb r => by
      have q := hQ h' sb
      rw [hSk] at q
      rw [sz] at r
      exact q r
    refine wpAny_bind (gave _ ?_)
    split
    · refine wpAny_bind ?_
      rw [hashByValue_scannable 8 c2]
      refine wpAny_pure (ss_tail ?_ ho hex hd g1 nd1 m1 hb1 ?_ ?_ ?_ ?_)
      · intro b s1 Q1 q; cases b <;> first | exact wpAny_pure q | exact wpAny_rule q
      · first | (split <;> first | exact p2 | exact SetTable.fits_plain_off p2) | exact p2
      · first | (split <;> exact p3) | exact p3
      · first | (split <;> exact ld) | exact ld
      · intro h' sb r; dsimp only; exact wpAny_pure (fin h' sb r)
    · refine wpAny_bind (wpAny_pure ?_)
      simp only [↓reduceIte]
      refine ss_tail ?_ ho hex hd g1 nd1 m1 hb1 p2 p3 ld ?_
      · intro b s1 Q1 q; cases b <;> first | exact wpAny_pure q | exact wpAny_rule q
      · intro h' sb r; dsimp only; exact wpAny_pure (fin h' sb r)
end
end DL

set_option Elab.async false
set_option linter.all false
set_option maxRecDepth 100000
set_option maxHeartbeats 4000000
namespace DL
open PySem PySem.Spec PyProof.Rows L2
/-- a new set -/
abbrev newS (w : World) : Obj := { cls := .type "set", dict := none, data := .set #[] 0 (.fresh 0 0 (!w.params.followText "set-order")) }
theorem ss_new_at {P : Program} {w : World} {h : Heap} {a : Addr} {ks : List Str} (ho : h.get? a = some (newS w)) : SetS P w h a (fun j => decide (j ∈ ks.take 0)) 0 :=
  ⟨_, #[], 0, _, ho, ⟨rfl, rfl, rfl⟩, rfl, (fun e he => by simp at he), (by simp), (fun k => by simp), (by decide), (by rfl), rfl, List.Pairwise.nil, by
    cases hq : w.params.followText "set-order"
    · exact .inr rfl
    · exact .inl rfl⟩
theorem SetS.congr {P : Program} {w : World} {h : Heap} {a : Addr} {S S' : Str → Bool} {n : Nat} (R : SetS P w h a S n) (e : ∀ k, S' k = S k) : SetS P w h a S' n := (funext e : S' = S) ▸ R
section
variable {P : Program} {w : World} {A : Around} {E : Value → Shared → Prop} {s : Shared}
theorem ss_loop {I : Addr} {fp wr : List Addr} {G : Array GenState → Array GenState → Prop} {n : Nat} {Pv : Nat → Value → Prop} {St : Nat → Shared → Prop} {R : Result → Shared → Prop}
    (W : WalksS P w A.in1 I fp wr G n Pv St) (T : Addr) (hT : T ∉ fp) (ks : List Str) (hn : n = ks.length) (hb : ks.length + 1 < scanBound) (hval : ∀ i v, Pv i v → ∃ k t, ks[i]? = some k ∧ v = .str k t) :
    ∀ (m i : Nat) (s : Shared), n - i = m → i ≤ n → St i s → (∃ c, c ≤ i ∧ SetS P w s.heap T (fun j => decide (j ∈ ks.take i)) c) →
      (∀ s' c, Moved (T :: wr) G s s' → c ≤ n → SetS P w s'.heap T (fun j => decide (j ∈ ks)) c → R (.ok (.ret .none)) s') →
      codeAny (model P w) A (.builtin "set.update.loop" ⟨[.ref T, .ref I], []⟩) R s := by
  have n1 : T ∉ wr := fun z => hT (W.sub _ z)
  have n2 : ∀ b ∈ wr, b ∈ T :: wr := fun b z => List.mem_cons_of_mem _ z
  intro m
  induction m with
  | zero =>
    intro i s hk hi hst ⟨c, hc, hS⟩ hR
    obtain rfl : i = n := by omega
    refine codeAny_builtin F.entry_set_update_loop ?_
    rw [Around.under_plainId F.plain_set_update_loop _]
    refine (show wpAny _ A.in1 (pyNext (.ref I) >>= _) _ _ s from wpAny_bind (W.done s _ _ hst fun s' hm => ?_))
    rw [List.take_of_length_le (by omega : ks.length ≤ i)] at hS
    exact (show wpAny _ A.in1 (ret Value.none) _ _ s' from wpAny_pure (hR s' c (hm.mono n2) hc (hS.at fun o e => hm.heap T o n1 e)))
  | succ m ih =>
    intro i s hk hi hst ⟨c, hc, hS⟩ hR
    have hlt : i < n := by omega
    refine codeAny_builtin F.entry_set_update_loop ?_
    rw [Around.under_plainId F.plain_set_update_loop _]
    refine (show wpAny _ A.in1 (pyNext (.ref I) >>= _) _ _ s from wpAny_bind (W.item i s _ _ hlt hst fun v s' hP hst' hm => ?_))
    obtain ⟨z, t, hz, rfl⟩ := hval i v hP
    have hS1 : SetS P w s'.heap T (fun j => decide (j ∈ ks.take i)) c := hS.at fun o e => hm.heap T o n1 e
    refine (show wpAny _ A.in1 (holding [Value.str z t] (setAdd T (.str z t)) >>= _) _ _ s' from wpAny_bind (wpAny_holding ?_))
    unfold setAdd
    refine wpAny_holding (wpAny_bind ((strKind P w).pyHash (k := z) (strKind_is _ _ _ _) (ss_add (s := { s' with toks := s'.toks + 1 }) hS1 (by omega) fun h' sb hS2 => ?_)))
    have hS3 : SetS P w h' T (fun j => decide (j ∈ ks.take (i + 1))) (if decide (z ∈ ks.take i) = true then c else c + 1) := hS2.congr fun j => by
      rw [List.take_add_one, hz]
      simp [List.mem_append]
    refine wpAny_pure ⟨plainId_quiet F.plain_set_update_loop _, ih (i + 1) _ (by omega) hlt (W.frame _ s' _ _ hst' (Nat.le_succ _) fun b hb o e => ?_) ⟨_, (by split <;> omega), hS3⟩ fun s2 c2 hm2 hc2 hS4 => ?_⟩
    · rw [sb.2 b (fun q : b = T => hT (by rw [← q]; exact hb))]; exact e
    · refine hR s2 c2 (Moved.trans W.gtrans ((hm.mono n2).then_heap (Nat.le_succ _) fun b o hb e => ?_) hm2) hc2 hS4
      rw [sb.2 b (fun q : b = T => hb (by rw [q]; exact List.mem_cons_self))]; exact e
theorem strs_get : ∀ {l : List Value} {xs : List Str}, StrsAre l xs → ∀ (i : Nat) (v : Value), l[i]? = some v → ∃ k t, xs[i]? = some k ∧ v = .str k t
  | _, _, .nil, i, v, h => by simp at h
  | _, _, .cons n t hr, 0, v, h => by simp at h; exact ⟨n, t, rfl, h.symm⟩
  | _, _, .cons n t hr, i + 1, v, h => by
    simp only [List.getElem?_cons_succ] at h ⊢
    exact strs_get hr i v h
theorem set_of_list {l : Addr} {items : Array Value} (ks : List Str) {Q : Value → Shared → Prop} (hh : A.handled = none) (hl : s.heap.IsList l items) (hit : StrsAre items.toList ks) (hb : ks.length + 1 < scanBound)
    (h : ∀ (h' : Heap) (tk c : Nat), SetS P w h' s.heap.objs.size (fun j => decide (j ∈ ks)) c → c ≤ ks.length → (∀ b o, s.heap.get? b = some o → h'.get? b = some o) → Q (.ref s.heap.objs.size) { s with heap := h', toks := tk }) :
    wpAny (model P w) A (call (.type "set") [.ref l]) Q E s := by
  have sz : items.size = ks.length := by rw [← StrsAre.len_eq hit, Array.length_toList]
  obtain ⟨c0, tl0, hmro⟩ := F.called_set.mro
  have f1 := F.called_set.made
  have f2 := F.called_set.sub
  have f3 := F.called_set.notType
  have f4 := F.called_set.canCreate
  have f5 := F.typeCall_set_1 (.ref l)
  refine wpAny_call (codeAny_of_tree (show wpAny _ _ (callAny (.type "set") _) _ _ _ from wpAny_pure ⟨Code.quiet_builtin _ (by decide +kernel), codeAny_builtin F.entry_type_call ?_⟩))
  rw [Around.under_plain (weight_type_call_type "set" [.ref l] []) rfl]
  repeat (any_goals (first | assumption | wp_step))
  refine codeAny_mono (code_set_led1 (.ref l) (E := E) (Q₁ := fun ob s1 => ob = .ref s.heap.objs.size ∧ s1 = { s with heap := s.heap.push (newS w) }) ⟨rfl, rfl⟩) fun r s1 hr => ?_
  cases r with
  | error e => exact hr
  | ok fl =>
    cases fl with
    | ret ob =>
      obtain ⟨rfl, rfl⟩ := hr
      have hS : (s.heap.push (newS w)).get? s.heap.objs.size = some (newS w) := Heap.get?_push_size _ rfl
      have hT : Shared.TypeIs { s with heap := s.heap.push (newS w) } (.ref s.heap.objs.size) "set" := ⟨_, hS, rfl⟩
      have f6 := F.called_set.init.lookup
      have f7 := F.called_set.init.bind (.ref s.heap.objs.size)
      repeat (any_goals (first | assumption | wp_step))
      refine codeAny_mono (codeAny_call_builtin (R := wants (fun r s2 => r = .none ∧ ∃ h' tk c, s2 = { s with heap := h', toks := tk } ∧ SetS P w h' s.heap.objs.size (fun j => decide (j ∈ ks)) c ∧ c ≤ ks.length ∧ (∀ b o, s.heap.get? b = some o → h'.get? b = some o)) E) F.called_set.init.plain F.entry_set_init (check_set_init_1 hT ?_)) fun r2 s2 hr2 => ?_
      · obtain ⟨ol, hol, hcl, nl, hdl⟩ := hl
        obtain ⟨ocls, odict, odata, oslots⟩ := ol
        simp only at hcl hdl
        subst hcl; subst hdl
        have hol1 : (s.heap.push (newS w)).get? l = some { cls := .type "list", dict := odict, data := .seq items nl, slots := oslots } := Heap.get?_push_of_some _ hol
        have f8 := F.sub_list_set
        have f9 := F.sub_list_frozenset
        have f10 : (Value.type "list" == Value.type "dict") = false := by decide
        have hl1 : (s.heap.push (newS w)).IsList l items := ⟨_, hol1, rfl, nl, rfl⟩
        unfold Builtin.«set.__init__» noKeywords Builtin.Frozenset.updateFrom
        generalize hPI : pyIter = PI
        wp_walk
        subst hPI
        refine wpAny_pyIter_list hl1 (wpAny_bind (wpAny_runValue ?_))
        have hlS : l < s.heap.objs.size := Heap.lt_size hol
        have zz : (s.heap.push (newS w)).objs.size = s.heap.objs.size + 1 := Heap.size_push ..
        have q1 : l ≠ (s.heap.push (newS w)).objs.size := by rw [zz]; exact Nat.ne_of_lt (Nat.lt_succ_of_lt hlS)
        have q2 : s.heap.objs.size ∉ [(s.heap.push (newS w)).objs.size, l] := by
          rw [zz]; simp only [List.mem_cons, List.mem_singleton, List.not_mem_nil, or_false, not_or]
          exact ⟨Nat.ne_of_lt (Nat.lt_succ_self _), Nat.ne_of_gt hlS⟩
        refine ss_loop ((Walks.list (by simp [hh]) _ l q1 items).toS) s.heap.objs.size q2 ks sz hb (fun i v hv => strs_get hit i v (by rw [Array.getElem?_toList]; exact hv)) (items.size - 0) 0 _ (by omega) (Nat.zero_le _) ⟨⟨_, Heap.get?_push_size _ rfl, rfl, rfl⟩, (hl1.push _)⟩ ⟨0, Nat.le_refl 0, ss_new_at (Heap.get?_push_of_some _ hS)⟩ ?_
        intro s' c' hm hc' hS'
        obtain ⟨h', g2, d', tk', os'⟩ := s'
        obtain rfl : g2 = s.gens := hm.gens
        obtain rfl : d' = s.drawn := hm.drawn
        obtain rfl : os' = s.os := hm.os
        refine (show wpAny _ _ _ _ _ _ from wpAny_pure (show wpAny _ _ (ret Value.none) _ _ _ from ?_))
        rw [sz] at hc'
        refine wpAny_pure ⟨rfl, h', tk', c', rfl, hS', hc', fun b o e => ?_⟩
        have hb0 : b < s.heap.objs.size := Heap.lt_size e
        exact hm.heap b o (by rw [zz]; simp only [List.mem_cons, List.mem_singleton, List.not_mem_nil, or_false, not_or]; exact ⟨Nat.ne_of_lt hb0, Nat.ne_of_lt (Nat.lt_succ_of_lt hb0)⟩) (Heap.get?_push_of_some _ (Heap.get?_push_of_some _ e))
      · cases r2 with
        | error e => exact hr2
        | ok fl2 =>
          cases fl2 with
          | ret r =>
            obtain ⟨rfl, h', tk, c', rfl, hS', hc', hk'⟩ := hr2
            repeat (any_goals (first | assumption | wp_step))
            exact h _ _ _ hS' hc' hk'
          | _ => exact hr2.elim
    | _ => exact hr.elim
end
end DL

set_option Elab.async false
set_option linter.all false
set_option maxRecDepth 100000
set_option maxHeartbeats 4000000
namespace DL
open PySem PySem.Spec PyProof.Rows L2
/-- a set of texts, known to the abstract heap -/
def SsO (P : Program) (w : World) (a : Addr) (S : Str → Bool) (n : Nat) : HO := .ext fun h => SetS P w h a S n
section
variable {X : Cx}
theorem sso_new {P : Program} {w : World} {H : Hp} {h : Heap} {a : Addr} {S : Str → Bool} {n : Nat} (R : SetS P w h a S n) : ObjOk P w H h a (SsO P w a S n) := by
  have ⟨o, _, _, _, ho, _⟩ := R
  exact ⟨R, ⟨o, ho⟩, fun h1 h2 q k => SetS.at q k⟩
theorem sso_get {pins : List (Addr × Obj)} {σ : L2.St} {H : Hp} {s : Shared} {a : Addr} {S : Str → Bool} {n : Nat} (I : Inv X pins σ H s) (ha : H a = some (SsO X.prog X.w a S n)) : SetS X.prog X.w s.heap a S n := (I.hok a _ ha).1
def rSetTx (X : Cx) : List V → Hp → VK → Prop := fun xs H Q => ∃ (l : Addr) (ks : List Str), xs = [.ref l] ∧ SqL X.K H l (ks.map V.str) ∧ ks.length ≤ 2000 ∧ ∀ p c, H p = none → c ≤ ks.length → Q (.ref p) (upd H p (SsO X.prog X.w p (fun j => decide (j ∈ ks)) c))
theorem cr_setTx (hc : X.calm = true) : CallR X (.type "set") (rSetTx X) := by
  intro pins s σ H xs us Q I r h
  obtain ⟨l, ks, rfl, hq, hl, q⟩ := h
  rw [Vals.ref1 r]
  obtain ⟨its, rv, hil, _⟩ := I.list hq
  refine set_of_list ks (I.ok.hd hc) hil.isList rv.strs (by unfold scanBound; omega) fun h' tk c hS hc' k => ?_
  have fr : H s.heap.objs.size = none := I.hok.fresh (Nat.le_refl _)
  exact ⟨.ref _, _, I.laid (t' := tk) k (Nat.le_refl _) (sso_new hS), rfl, q _ c fr hc'⟩
def rSortTx (X : Cx) : List V → Hp → VK → Prop := fun xs H Q => ∃ (a : Addr) (S : Str → Bool) (n : Nat), xs = [.ref a] ∧ H a = some (SsO X.prog X.w a S n) ∧ n < 64 ∧
  ∀ (ys : List Str) (p : Addr), sortedS ys = true → ys.Nodup → (∀ k, k ∈ ys ↔ S k = true) → H p = none → Q (.ref p) (upd H p (.lst (ys.map V.str)))
theorem txts_of {P : Program} {w : World} : ∀ {l : List Value}, (∀ v ∈ l, ∃ k tk, v = Value.str k tk) → ∃ ks, StrsAre l ks ∧ l.map (fun v => txtOf (0, v)) = ks
  | [], _ => ⟨[], .nil, rfl⟩
  | v :: l, h => by
    obtain ⟨k, tk, rfl⟩ := h v List.mem_cons_self
    obtain ⟨ks, hk, e⟩ := txts_of (P := P) (w := w) fun u hu => h u (List.mem_cons_of_mem _ hu)
    exact ⟨k :: ks, .cons k tk hk, by rw [List.map_cons, e]; rfl⟩
theorem cr_sortTx (hc : X.calm = true) : CallR X (.builtin "sorted") (rSortTx X) := by
  intro pins s σ H xs us Q I r h
  obtain ⟨a, S, n, rfl, ha, h64, q⟩ := h
  rw [Vals.ref1 r]
  obtain ⟨o, es, ep, t, ho, hex, hd, g, nd, hm, hb, hf, hn, hr, hl⟩ := sso_get I ha
  refine Calls.call_function_entry PyProof.Rows.kind_sorted PyProof.Rows.plain_sorted PyProof.Rows.entry_sorted (PyProof.Rows.args_sorted1 _) ?_
  unfold Builtin.«sorted»
  refine wpAny_bind (m := checkCount "sorted" 1 1 _) (wpAny_pure (wpAny_bind (collect_set (A := X.A.in1) (I.ok.hd hc) ⟨o, ho, hex.1, hd⟩ hf hb hr hl fun s1 vs k1 hz g1 o1 pm => ?_)))
  have vl : vs.length = n := by rw [pm.length_eq, List.length_map, Array.length_toList]; exact hn
  obtain ⟨ks, hS, eks⟩ := txts_of (P := X.prog) (w := X.w) (l := vs) fun v hv => by
    obtain ⟨e, he, z⟩ := List.mem_map.mp (pm.mem_iff.mp hv)
    obtain ⟨k, tk, h1, _⟩ := g e he
    exact ⟨k, tk, by rw [← z]; exact h1⟩
  have pk : ks.Perm (es.toList.map txtOf) := by
    have z := pm.map (fun v => txtOf (0, v))
    rw [eks, List.map_map] at z
    exact z
  have kl : ks.length = n := by rw [← eks, List.length_map, vl]
  have I1 : Inv X pins σ H s1 := I.call' (ch := []) o1 (Un.kept k1) (I.hok.kept k1) (by rw [g1]; exact I.bare) (fun _ z => nomatch z)
  refine wpAny_bind (wpAny_newList ?_ (by rw [vl, sizeLine_eq]; omega))
  have hoL : (s1.heap.push (seqObj "list" vs.toArray 0)).get? s1.heap.objs.size = some (seqObj "list" vs.toArray 0) := Heap.get?_push_size _ rfl
  refine wpAny_bind (wpAny_holding (wpAny_call_entry PyProof.Rows.slot_list_sort ⟨_, hoL, rfl⟩ PyProof.Rows.entry_list_sort
    (list_sort_treeK strKind_oneLt hoL hS.keysOf (fun v1 v2 rest e => keyKind_strs (by rw [← e]; exact hS)) (by rw [vl]; exact h64) fun st2 hp hs => ⟨_, rfl, ?_⟩) (PyProof.Rows.args_list_sort _)))
  obtain ⟨ys, z1, z2, z3⟩ := sorted_out_str hS hp hs
  obtain ⟨e2, he2⟩ := PyProof.Rows.sortedHeap_at (vs := vs) (out := (arrOf st2).map (·.2)) hoL
  have yl : (ys.map V.str).length ≤ sizeLine := by rw [List.length_map, z2.length_eq, kl, sizeLine_eq]; omega
  have fr : H s1.heap.objs.size = none := I1.hok.fresh (Nat.le_refl _)
  refine wpAny_pure ⟨_, rfl, .ref s1.heap.objs.size, upd H s1.heap.objs.size (.lst (ys.map V.str)), I1.laid (t' := s1.toks) (fun b u e => ?_) (Nat.le_refl _) (show ObjOk X.prog X.w _ _ _ (.lst (ys.map V.str)) from ⟨yl, ((arrOf st2).map (·.2)).toList, e2, vals_of_strs z1, by rw [Array.toArray_toList]; exact he2⟩), rfl, ?_⟩
  · have hb : b < s1.heap.objs.size := Heap.lt_size e
    rw [PyProof.Rows.sortedHeap_old (Nat.ne_of_lt hb) (by rw [size_push']; exact Nat.lt_succ_of_lt hb)]
    exact Heap.get?_push_of_some _ e
  · have py : ys.Perm (es.toList.map txtOf) := z2.trans pk
    exact q ys _ z3 (py.nodup_iff.mpr nd) (fun k => by rw [py.mem_iff, ← hm k]) fr
end
end DL

set_option Elab.async false
set_option linter.all false
set_option maxRecDepth 100000
namespace DL
open PySem PySem.Spec L2
/-! ### bits -/
def shrU (x y : U) (S : Sto) : R U := match x, y with
  | .int i, .int j => guard (decide (0 ≤ j)) (.ok (.int (i / 2 ^ j.toNat)) S)
  | _, _ => .bad
def andU (x y : U) (S : Sto) : R U := match x, y with
  | .int i, .int j => .ok (.int (Builtin.bitAnd i j)) S
  | _, _ => .bad
def orU (x y : U) (S : Sto) : R U := match x, y with
  | .int i, .int j => .ok (.int (Builtin.bitOr i j)) S
  | _, _ => .bad
def xorU (x y : U) (S : Sto) : R U := match x, y with
  | .int i, .int j => .ok (.int (Builtin.bitXor i j)) S
  | _, _ => .bad
section
variable {X : Cx}
theorem noX_shr (x y : U) (S : Sto) : noX (shrU x y S) := by unfold shrU; split <;> first | trivial | exact noX_guard trivial
theorem noX_and (x y : U) (S : Sto) : noX (andU x y S) := by unfold andU; split <;> trivial
theorem noX_or (x y : U) (S : Sto) : noX (orU x y S) := by unfold orU; split <;> trivial
theorem noX_xor (x y : U) (S : Sto) : noX (xorU x y S) := by unfold xorU; split <;> trivial
theorem os_shr : OpSim X (binaryOp .RShift) shrU := by
  refine ⟨_, op_shr, fun w x y v v' Q s rx ry h => ?_⟩
  unfold shrU at h
  split at h
  · obtain ⟨hl, h⟩ := guard_post h
    cases rx; cases ry; exact ⟨_, _, rfl, rfl, of_decide_eq_true hl, OkE.here h s (.int _)⟩
  · exact h.elim
theorem os_and : OpSim X (binaryOp .BitAnd) andU := by
  refine ⟨_, op_and, fun w x y v v' Q s rx ry h => ?_⟩
  unfold andU at h
  split at h
  · cases rx; cases ry; exact ⟨_, _, rfl, rfl, OkE.here h s (.int _)⟩
  · exact h.elim
theorem os_or : OpSim X (binaryOp .BitOr) orU := by
  refine ⟨_, op_or, fun w x y v v' Q s rx ry h => ?_⟩
  unfold orU at h
  split at h
  · cases rx; cases ry; exact ⟨_, _, rfl, rfl, OkE.here h s (.int _)⟩
  · exact h.elim
theorem os_xor : OpSim X (binaryOp .BitXor) xorU := by
  refine ⟨_, op_xor, fun w x y v v' Q s rx ry h => ?_⟩
  unfold xorU at h
  split at h
  · cases rx; cases ry; exact ⟨_, _, rfl, rfl, OkE.here h s (.int _)⟩
  · exact h.elim
end
end DL

set_option Elab.async false
set_option linter.all false
set_option maxRecDepth 100000
namespace DL
open PySem PySem.Spec L2
section
variable {X : Cx} {Wx : WX}
/-! ### dict(d), dict(pairs), sorted(d) -/
def CallSimD (X : Cx) (f : Value) (g : List U → Sto → R (List Key × List U)) : Prop := ∃ r, CallR X f r ∧
  ∀ (w : Wd) (us : List U) (vs : List V) (Q : VK) (E : Exc → Sto → Prop), SR (KMof X) w → VRs (KMof X) w us vs → Pst (g us w.S) (OkD X w Q) E → (∀ x S, ¬ E x S) → r vs w.H Q
theorem sd_callTy {x : Str} {T : String} {p pos : Pos} {e : Expr} {es : List Expr} {fa : FA} {g : List U → Sto → R (List Key × List U)} (hx : ∀ us S y S', g us S ≠ .exc y S') (hc : CallSimD X (.type T) g) (hg : Gl X x) (hm : X.mg x = none) (hv : bootBuiltins x = some (.type T)) (ha : SimA X Wx (e :: es) fa) (hn : x ≠ "__name__" := by decide) (hdb : (x == ("__debug__" : Str)) = false := by decide)
    (he : starEach (e :: es) X.env = (false, eval e X.env) :: starEach es X.env := by rfl) (hpl : (backTo pos (starEach es X.env)).any (·.1) = false := by rfl) : SimD X Wx (.Call (.Name x p) (e :: es) [] pos) (fA g fa) := by
  obtain ⟨r, hc, hr⟩ := hc
  obtain ⟨ta, pa, ha⟩ := ha.out
  refine SimD.mk (pe_callTy hc hg hm hv pa hn hdb he hpl) (fun w d σ Q s e h => ?_)
  refine ha w d σ _ s e ((Pst.of_bind h).mono (fun us S1 h1 w1 vs eS st s1 rs => ?_) fun _ _ q => q)
  subst eS
  refine hr w1 us vs Q (fun _ _ => False) s1 rs ?_ (fun _ _ z => z)
  cases hq : g us w1.S with
  | ok a S => rw [hq] at h1; exact OkD.up h1 st
  | exc y S => exact absurd hq (hx _ _ _ _)
  | bad => rw [hq] at h1; exact h1.elim
def pairOf : U → Option (Key × U)
  | .tup [k, v] => (keyU k).map fun k => (k, v)
  | _ => none
def pairsOf : List U → Option (List (Key × U))
  | [] => some []
  | u :: us => match pairOf u, pairsOf us with
    | some p, some ps => some (p :: ps)
    | _, _ => none
def dictC (us : List U) (S : Sto) : R (List Key × List U) := match us with
  | [u] => match dictOf u S with
    | some p => .ok p S
    | none => match (DL.listOf u S).bind pairsOf with
      | some ps => .ok (mergeU ([], []) ps) S
      | none => .bad
  | _ => .bad
theorem dictC_noX (us : List U) (S : Sto) (y : Exc) (S' : Sto) : dictC us S ≠ .exc y S' := by
  unfold dictC
  split
  · split
    · intro h; cases h
    · split <;> (intro h; cases h)
  · intro h; cases h
theorem pairs_rel {w : Wd} : ∀ {us : List U} {vs : List V} {ps : List (Key × U)}, VRs (KMof X) w us vs → pairsOf us = some ps → ∃ (as : List Addr) (xs : List V), vs = as.map V.ref ∧ Paired (fun p kv => SqT X.K w.H p [kV kv.1, kv.2]) as ((ps.map (·.1)).zip xs) ∧ VRs (KMof X) w (ps.map (·.2)) xs
  | _, _, _, .nil, h => by cases h; exact ⟨[], [], rfl, .nil, .nil⟩
  | _, _, _, .cons (u := u) (us := us) r rs, h => by
    unfold pairsOf at h
    cases hp : pairOf u with
    | none => rw [hp] at h; cases h
    | some p =>
      cases hps : pairsOf us with
      | none => rw [hp, hps] at h; cases h
      | some ps =>
        rw [hp, hps] at h
        cases h
        obtain ⟨as, xs, rfl, pr, rx⟩ := pairs_rel rs hps
        unfold pairOf at hp
        split at hp
        · rename_i k v
          obtain ⟨kk, hk, rfl⟩ := Option.map_eq_some_iff.mp hp
          cases r with
          | tup hq rr =>
            cases rr with
            | cons r1 rr =>
              cases rr with
              | cons r2 rr =>
                cases rr
                have hk1 := keyU_ok r1 hk
                subst hk1
                exact ⟨_ :: as, _ :: xs, rfl, .cons hq.sq pr, .cons r2 rx⟩
        · cases hp
theorem cd_dict (hc : X.calm = true) : CallSimD X (.type "dict") dictC := by
  refine ⟨_, call_dictD.or (call_dictP hc), fun w us vs Q E s rs h hE => ?_⟩
  unfold dictC at h
  split at h
  · rename_i u
    cases rs with
    | cons r rs =>
      cases rs
      split at h
      · rename_i p hd
        obtain ⟨ks, us⟩ := p
        obtain ⟨a, xs, rfl, q, l, rx⟩ := dictOf_ok s r hd
        exact .inl ⟨a, _, rfl, .inl q, fun p hp => h w p xs rfl (Stp.refl w) s l rx hp⟩
      · split at h
        · rename_i ps hb
          obtain ⟨ls, hl, hps⟩ := Option.bind_eq_some_iff.mp hb
          obtain ⟨a, xs, rfl, q, rx⟩ := listOf_ok s r hl
          obtain ⟨as, ys, rfl, pr, ry⟩ := pairs_rel rx hps
          obtain ⟨zs, e1, r1, l1⟩ := merge_ok (ks := []) (us := []) (xs := []) ry rfl .nil
          refine .inr ⟨a, as, _, rfl, q, pr, fun p hp => ?_⟩
          have e2 : mergeK [] ((ps.map (·.1)).zip ys) = _ := e1
          rw [e2]
          exact h w p zs rfl (Stp.refl w) s l1 r1 hp
        · exact h.elim
  · exact h.elim
end
end DL

set_option Elab.async false
set_option linter.all false
set_option maxRecDepth 100000
namespace DL
open PySem PySem.Spec L2 TL
/-! ### texts in their order -/
def leT (a b : Str) : Bool := !ltCps (tl b) (tl a)
theorem leT_iff (a b : Str) : leT a b = true ↔ ¬ (tl b < tl a) := by
  unfold leT
  rw [PyProof.Rows.ltCps_eq, Bool.not_eq_true', decide_eq_false_iff_not]
theorem leT_total (a b : Str) : leT a b = true ∨ leT b a = true := by
  rw [leT_iff, leT_iff]
  by_cases h : tl b < tl a
  · exact .inr (List.lt_asymm h)
  · exact .inl h
theorem leT_trans {a b c : Str} (h1 : leT a b = true) (h2 : leT b c = true) : leT a c = true := by
  rw [leT_iff] at h1 h2 ⊢
  have h3 := List.le_trans (List.not_lt.mp h1) (List.not_lt.mp h2)
  exact List.not_lt.mpr h3
theorem leT_anti {a b : Str} (h1 : leT a b = true) (h2 : leT b a = true) : a = b := by
  rw [leT_iff] at h1 h2
  exact ext_tl (List.le_antisymm (List.not_lt.mp h1) (List.not_lt.mp h2))
theorem rising_pw : ∀ {p : Str} {l : List Str}, PyProof.Rows.risingS p l = true → (p :: l).Pairwise fun a b => leT a b = true
  | p, [], _ => List.pairwise_singleton _ _
  | p, x :: r, h => by
    have h : (!ltCps (tl x) (tl p) && PyProof.Rows.risingS x r) = true := h
    rw [Bool.and_eq_true] at h
    have ih := rising_pw h.2
    refine List.pairwise_cons.mpr ⟨fun y hy => ?_, ih⟩
    rcases List.mem_cons.mp hy with rfl | hy
    · exact h.1
    · exact leT_trans h.1 ((List.pairwise_cons.mp ih).1 y hy)
theorem sorted_pw {l : List Str} (h : PyProof.Rows.sortedS l = true) : l.Pairwise fun a b => leT a b = true := by
  cases l with
  | nil => exact List.Pairwise.nil
  | cons x r => exact rising_pw h
/-- the texts, sorted -/
def sortT (ks : List Str) : List Str := ks.mergeSort leT
theorem sortT_perm (ks : List Str) : (sortT ks).Perm ks := List.mergeSort_perm ks leT
theorem sortT_pw (ks : List Str) : (sortT ks).Pairwise fun a b => leT a b = true := List.pairwise_mergeSort (le := leT) (fun _ _ _ h1 h2 => leT_trans h1 h2) (fun a b => by simpa [Bool.or_eq_true] using leT_total a b) ks
theorem pw_unique : ∀ {l m : List Str}, l.Perm m → l.Pairwise (fun a b => leT a b = true) → m.Pairwise (fun a b => leT a b = true) → l = m
  | [], m, p, _, _ => p.nil_eq
  | x :: l, [], p, _, _ => absurd p.symm.nil_eq (by intro h; cases h)
  | x :: l, y :: m, p, h1, h2 => by
    have hx : x ∈ y :: m := p.mem_iff.mp List.mem_cons_self
    have hy : y ∈ x :: l := p.mem_iff.mpr List.mem_cons_self
    have e : x = y := by
      rcases List.mem_cons.mp hx with e | hx
      · exact e
      · rcases List.mem_cons.mp hy with e | hy
        · exact e.symm
        · exact leT_anti ((List.pairwise_cons.mp h1).1 y hy) ((List.pairwise_cons.mp h2).1 x hx)
    subst e
    rw [pw_unique (List.Perm.cons_inv p) (List.pairwise_cons.mp h1).2 (List.pairwise_cons.mp h2).2]
theorem sorted_eq {ys ks : List Str} (p : ys.Perm ks) (h : PyProof.Rows.sortedS ys = true) : ys = sortT ks := pw_unique (p.trans (sortT_perm ks).symm) (sorted_pw h) (sortT_pw ks)
end DL

set_option Elab.async false
set_option linter.all false
set_option maxRecDepth 100000
namespace DL
open PySem PySem.Spec L2 TL
section
variable {X : Cx} {Wx : WX}
/-! ### sorted(texts), sorted(a dict of texts) -/
def keysS : List Key → Option (List Str)
  | [] => some []
  | .inr k :: ks => (keysS ks).map (k :: ·)
  | _ => none
theorem keysS_ok : ∀ {ks : List Key} {zs : List Str}, keysS ks = some zs → ks = zs.map Sum.inr
  | [], _, h => by cases h; rfl
  | .inr k :: ks, _, h => by
    unfold keysS at h
    obtain ⟨zs, e, rfl⟩ := Option.map_eq_some_iff.mp h
    rw [keysS_ok e]; rfl
  | .inl k :: ks, _, h => by unfold keysS at h; cases h
def sortedC (us : List U) (S : Sto) : R (List U) := match us with
  | [u] => match dictOf u S with
    | some p => match keysS p.1 with
      | some zs => guard (decide (zs.length < 64)) (.ok ((sortT zs).map .str) S)
      | none => .bad
    | none => match (DL.listOf u S).bind strsOf with
      | some zs => guard (decide (zs.length < 64)) (.ok ((sortT zs).map .str) S)
      | none => .bad
  | _ => .bad
theorem cl_sorted (hc : X.calm = true) : CallSimL X (.builtin "sorted") sortedC := by
  refine ⟨_, (call_sortedD hc).or cr_sortedS, fun w us vs Q E s rs h => ?_⟩
  have fin : ∀ {zs ys : List Str} {p : Addr}, OkL X w Q ((sortT zs).map .str) w.S → ys.Perm zs → PyProof.Rows.sortedS ys = true → w.H p = none → Q (.ref p) (upd w.H p (.lst (ys.map V.str))) := fun {zs ys p} h1 pm so hp => by
    rw [sorted_eq pm so]
    exact h1 w p _ rfl (Stp.refl w) s (strs_rel _) hp
  unfold sortedC at h
  split at h
  · rename_i u
    cases rs with
    | cons r rs =>
      cases rs
      split at h
      · rename_i p hd
        obtain ⟨ks, us⟩ := p
        split at h
        · rename_i zs hk
          obtain ⟨hl, h⟩ := guard_post h
          have hk := keysS_ok hk
          obtain ⟨a, xs, rfl, q, l, rx⟩ := dictOf_ok s r hd
          refine .inl ⟨a, _, zs, rfl, .inl q, ?_, of_decide_eq_true hl, fun ys p pm so hp => fin h pm so hp⟩
          rw [List.map_fst_zip (by rw [← rx.length, ← l]; exact Nat.le_refl _)]
          exact hk
        · exact h.elim
      · split at h
        · rename_i zs hb
          obtain ⟨hl, h⟩ := guard_post h
          obtain ⟨ls, hls, hzs⟩ := Option.bind_eq_some_iff.mp hb
          obtain ⟨a, xs, rfl, q, rx⟩ := listOf_ok s r hls
          have e := strsOf_ok rx hzs
          subst e
          exact .inr ⟨a, zs, rfl, q, of_decide_eq_true hl, fun ys p pm so hp => fin h pm so hp⟩
        · exact h.elim
  · exact h.elim
end
end DL

set_option Elab.async false
set_option linter.all false
set_option maxRecDepth 100000
namespace DL
open PySem PySem.Spec L2
section
variable {X : Cx} {Wx : WX}
/-! ### a + b, a new list -/
def aAdd (fa fb : FE) : FA := fun d S => (fa d S).bind fun x S1 => (fb d S1).bind fun y S2 => match listM x S2, listM y S2 with
  | some a, some b => guard (decide (a.length + b.length ≤ sizeLine)) (.ok (a ++ b) S2)
  | _, _ => .bad
theorem sl_add {a b : Expr} {fa fb : FE} {pos : Pos} (ha : SimE X Wx a fa) (hb : SimE X Wx b fb) : SimL X Wx (.BinOp a .Add b pos) (aAdd fa fb) := by
  obtain ⟨ta, pa, ha⟩ := ha.out
  obtain ⟨tb, pb, hb⟩ := hb.out
  refine SimL.mk (pe_op op_cat pa pb) (fun w d σ Q s e h => ?_)
  refine ha w d σ _ s e ((Pst.of_bind h).mono (fun x S1 h1 w1 v1 eS st s1 r1 => ?_) fun _ _ q => q)
  subst eS
  refine hb w1 d σ _ s1 (e.ext st.x s) ((Pst.of_bind h1).mono (fun y S2 h2 w2 v2 eS2 st2 s2 r2 => ?_) fun _ _ q => q.up st)
  subst eS2
  split at h2
  · rename_i a b ea eb
    obtain ⟨hl, h2⟩ := guard_post h2
    obtain ⟨p, xs, rfl, q, rs⟩ := listM_ok s2 (r1.ext st2.x s1) ea
    obtain ⟨p', xs', rfl, q', rs'⟩ := listM_ok s2 r2 eb
    exact ⟨p, p', xs, xs', rfl, rfl, q, q', by rw [← rs.length, ← rs'.length]; exact of_decide_eq_true hl, fun z hz => h2 w2 z _ rfl (st.trans st2) s2 (rs.append rs') hz⟩
  · exact h2.elim
/-! ### enumerate -/
def enumU : Nat → List U → List U
  | _, [] => []
  | n, u :: us => .tup [.int (n : Nat), u] :: enumU (n + 1) us
theorem enumU_len : ∀ (n : Nat) (us : List U), (enumU n us).length = us.length
  | _, [] => rfl
  | n, u :: us => by show (enumU (n + 1) us).length + 1 = _; rw [enumU_len (n + 1) us]; rfl
theorem enumU_get : ∀ {n : Nat} {us : List U} {i : Nat} {u : U}, (enumU n us)[i]? = some u → ∃ y, us[i]? = some y ∧ u = .tup [.int ((n + i : Nat) : Int), y]
  | _, [], _, _, h => by simp [enumU] at h
  | n, y :: us, 0, u, h => by
    have h : some (U.tup [.int (n : Nat), y]) = some u := h
    cases h
    exact ⟨y, rfl, rfl⟩
  | n, y :: us, i + 1, u, h => by
    obtain ⟨z, h1, h2⟩ := enumU_get (n := n + 1) (us := us) (i := i) (u := u) h
    exact ⟨z, h1, by rw [h2, show n + 1 + i = n + (i + 1) by omega]⟩
def aEnum (fa : FA) : FA := fun d S => (fa d S).bind fun us S1 => match us with
  | [u] => match lstV u with
    | some us => .ok (enumU 0 us) S1
    | none => .bad
  | _ => .bad
theorem it_enum {K : KM} {w : Wd} {a : Addr} {us : List U} (hk : ∀ w', Ext w w' → ∃ xs, SqL K w'.H a xs ∧ VRs K w' us xs) : ItSim K w (Ite K a) (enumU 0 us) := fun w' i x s => by
  obtain ⟨xs, hq, rs⟩ := hk w' x
  refine ⟨fun u hu => ?_, fun h => ⟨xs, hq, by rw [← rs.length]; rw [enumU_len] at h; exact h⟩⟩
  obtain ⟨y, hy, rfl⟩ := enumU_get hu
  obtain ⟨z, hz, rz⟩ := rs.get hy
  refine ⟨⟨xs, z, hq, hz⟩, fun v H' q => ?_⟩
  obtain ⟨T, z', rfl, hT, rfl, hz'⟩ := q
  have e := hz' xs hq
  rw [hz] at e
  cases e
  have st := Stp.new s (o := .tup [.int (i : Nat), z]) hT
  refine ⟨w'.new T _, rfl, rfl, st, s.new hT, ?_⟩
  rw [Nat.zero_add]
  exact .tup (TqT.of upd_same) (.cons (.int _) (.cons (rz.ext st.x s) .nil))
theorem si_enum {a : Expr} {fa : FA} {p pos tpos : Pos} {elts : List Expr} {kk : Nat} (hg : Gl X "enumerate") (hm : X.mg "enumerate" = none) (ha : SimA X Wx [a] fa) (hs : starEach [a] X.env = [(false, eval a X.env)] := by rfl) : SimI X Wx (.Tuple elts kk tpos) (.Call (.Name "enumerate" p) [a] [] pos) (aEnum fa) := by
  obtain ⟨t, p, ha⟩ := ha.out
  refine ⟨_, pi_enum hg hm p hs, fun w d σ Q s e h0 => ?_⟩
  refine ha w d σ _ s e ((Pst.of_bind h0).mono (fun us S1 h1 w1 vs eS st s1 rs => ?_) fun _ _ q => q)
  split at h1
  · split at h1
    · rename_i us hu
      cases rs with
      | cons r rs =>
        cases rs
        obtain ⟨a, rfl, hk⟩ := lstV_ok r hu
        obtain ⟨xs, hq, _⟩ := hk w1 (Ext.refl w1) s1
        exact ⟨a, xs, rfl, hq, h1 w1 _ eS st s1 (it_enum fun w' x => hk w' x s1)⟩
    · exact h1.elim
  · exact h1.elim
/-! ### a slot left to be read alone -/
def iceV (i : Nat) : FS := fun d S => match d[i]? with
  | some (some (.loc n)) => match S[n]? with
    | some (.lst us) => .ok (.nx (d.set i (some (.lst us)))) (S.set n .dead)
    | some (.dic ks us) => .ok (.nx (d.set i (some (.dic ks us)))) (S.set n .dead)
    | _ => .bad
  | _ => .bad
theorem ER.same {w : Wd} {d : En} {σ : L2.St} {i : Nat} {u : U} {v : V} (e : ER (KMof X) w d σ) (h : σ[i]? = some (some v)) (r : VR (KMof X) w u v) : ER (KMof X) w (d.set i (some u)) σ := by
  have z := e.set i r
  have q : σ.set i (some v) = σ := by
    apply List.ext_getElem?
    intro j
    by_cases hj : i = j
    · subst hj
      rw [List.getElem?_set_self (List.getElem?_eq_some_iff.mp h).1, h]
    · rw [List.getElem?_set_ne hj]
  rw [q] at z
  exact z
theorem ss_ice {st : Stmt} {f : FS} (i : Nat) (h : SimS X Wx st f) : SimS X Wx st (fSeq (iceV i) f) := by
  obtain ⟨t, p, h⟩ := h.out
  refine SimS.mk p (fun w d σ D s e h0 => ?_)
  unfold fSeq iceV at h0
  cases hd : d[i]? with
  | none => rw [hd] at h0; exact h0.elim
  | some o =>
    cases o with
    | none => rw [hd] at h0; exact h0.elim
    | some u =>
      cases u with
      | loc n =>
        rw [hd] at h0
        dsimp only at h0
        obtain ⟨v, hv, rv⟩ := e.get i _ hd
        cases rv with
        | @loc _ a hm =>
          cases hS : w.S[n]? with
          | none => rw [hS] at h0; exact h0.elim
          | some b =>
            rw [hS] at h0
            cases b with
            | lst us =>
              obtain ⟨xs, q, rs⟩ := s.obj n a _ hm hS
              have r : VR (KMof X) (w.ice n) (.lst us) (.ref a) := .lst q (live_ice s hm hS (by intro z; cases z)) (rs.ext (Ext.ice w n) s)
              exact h (w.ice n) _ σ D (s.ice n) ((e.ext (Ext.ice w n) s).same hv r) (Pst.mono h0 (fun _ _ q => q.up (Stp.ice w n)) fun _ _ q => q)
            | dic ks us =>
              obtain ⟨xs, q, l, rs⟩ := s.obj n a _ hm hS
              have r : VR (KMof X) (w.ice n) (.dic ks us) (.ref a) := .dic q (live_ice s hm hS (by intro z; cases z)) l (rs.ext (Ext.ice w n) s)
              exact h (w.ice n) _ σ D (s.ice n) ((e.ext (Ext.ice w n) s).same hv r) (Pst.mono h0 (fun _ _ q => q.up (Stp.ice w n)) fun _ _ q => q)
            | ins c fs => exact h0.elim
            | dead => exact h0.elim
      | _ => rw [hd] at h0; exact h0.elim
/-! ### == of dicts whose values are data -/
def hitsB (ls : List Key) (vs : List U) : List Key → List U → Option Bool
  | [], _ => some true
  | _, [] => some true
  | k :: ks, u :: us => match valU ls vs k with
    | none => some false
    | some y => match toD u, toD y, hitsB ls vs ks us with
      | some a, some b, some r => if SeqAt.shaped a && SeqAt.shaped b then some (PyData.eqv a b && r) else none
      | _, _, _ => none
def dEqB (x y : U) (S : Sto) : Option Bool := match dictOf x S, dictOf y S with
  | some (ks, us), some (ls, vs) => (hitsB ls vs ks us).map fun r => ks.length == ls.length && r
  | _, _ => none
theorem hits_ok {pins : List (Addr × Obj)} {σ : L2.St} {w : Wd} {s : Shared} {A : Around} (I : Inv X pins σ w.H s) (hu : A.in1.units + 64 < cLine) {ls : List Key} {vs : List U} {ys : List V} (ry : VRs (KMof X) w vs ys) {vb : List (Key × Value)} (rb : KV (ls.zip ys) vb) :
    ∀ {ks : List Key} {us : List U} {xs : List V} {va : List (Key × Value)} {r : Bool}, ks.length = us.length → VRs (KMof X) w us xs → KV (ks.zip xs) va → hitsB ls vs ks us = some r → PySem.W.KeqHits A.in1 s vb va r
  | [], us, xs, va, r, l, rs, ra, h => by
    unfold hitsB at h
    cases h
    rw [List.zip_nil_left] at ra
    unfold KV at ra
    cases ra
    exact .nil
  | k :: ks, us, xs, va, r, l, rs, ra, h => by
    cases rs with
    | nil => rw [List.length_cons, List.length_nil] at l; omega
    | @cons u us x xs rx rs =>
      rw [List.zip_cons_cons] at ra
      unfold KV at ra
      cases ra with
      | @cons _ q _ qs h1 t =>
        obtain ⟨key, v⟩ := q
        obtain ⟨h1, h2⟩ := h1
        have h1 : k = key := h1
        subst h1
        unfold hitsB at h
        obtain ⟨v1, v2⟩ := valU_ok (ks := ls) k ry
        have rr := rb.val k
        cases hv : valU ls vs k with
        | none =>
          rw [hv] at h
          cases h
          rw [v1 hv] at rr
          cases hz : valueAt vb k with
          | none => exact .miss hz
          | some z => rw [hz] at rr; exact rr.elim
        | some y =>
          rw [hv] at h
          dsimp only at h
          obtain ⟨v', e1, ry1⟩ := v2 y hv
          rw [e1] at rr
          obtain ⟨z, hz, rz⟩ := rr.some_of
          split at h
          · rename_i a b r' ea eb hr
            split at h
            · rename_i hs
              cases h
              rw [Bool.and_eq_true] at hs
              obtain ⟨as, r1⟩ := Dp.reads I a x v (toD_ok rx ea) h2
              obtain ⟨bs, r2⟩ := Dp.reads I b v' z (toD_ok ry1 eb) rz
              exact .hit hz (PySem.W.keq_at r1 r2 hs.1 hs.2 hu) (hits_ok I hu ry rb (by simpa using l) rs t hr)
            · cases h
          · cases h
theorem op_eqDict {A : Around} (hu : A.units + 66 < cLine) (w : Wd) {x y : U} {v v' : V} {b : Bool} (s : SR (KMof X) w) (rx : VR (KMof X) w x v) (ry : VR (KMof X) w y v') (h : dEqB x y w.S = some b) :
    ∃ a a' ks ls, v = .ref a ∧ v' = .ref a' ∧ w.H a = some (.dK ks) ∧ w.H a' = some (.dK ls) ∧ ∀ (pins : List (Addr × Obj)) (σ : L2.St) (s : Shared), Inv X pins σ w.H s → ∃ va vb r, s.heap.DictOf (mixKind X.prog X.w) a va ∧ s.heap.DictOf (mixKind X.prog X.w) a' vb ∧ (a == sysModules) = false ∧ (a' == sysModules) = false ∧ PySem.W.KeqHits A.in1 s vb va r ∧ b = (va.length == vb.length && r) := by
  unfold dEqB at h
  split at h
  · rename_i ks us ls vs h1 h2
    obtain ⟨r, hr, rfl⟩ := Option.map_eq_some_iff.mp h
    obtain ⟨a, xs, rfl, q, l, rs⟩ := dictOf_ok s rx h1
    obtain ⟨a', ys, rfl, q', l', rs'⟩ := dictOf_ok s ry h2
    refine ⟨a, a', _, _, rfl, rfl, q, q', fun pins σ sh I => ?_⟩
    obtain ⟨_, ya, va, ra, da⟩ := (show ObjOk X.prog X.w w.H sh.heap a (.dK (ks.zip xs)) from I.hok a _ q)
    obtain ⟨_, yb, vb, rb, db⟩ := (show ObjOk X.prog X.w w.H sh.heap a' (.dK (ls.zip ys)) from I.hok a' _ q')
    refine ⟨va, vb, r, da, db, ya, yb, hits_ok I (by show A.units + 1 + 64 < cLine; omega) rs' rb l rs ra hr, ?_⟩
    have e1 := ra.length
    have e2 := rb.length
    rw [zip_len l rs] at e1
    rw [zip_len l' rs'] at e2
    rw [e1, e2]
  · cases h
def eqXU (x y : U) (S : Sto) : R U := match dEqB x y S with
  | some b => .ok (.bl b) S
  | none => eqU x y S
def neXU (x y : U) (S : Sto) : R U := match dEqB x y S with
  | some b => .ok (.bl (!b)) S
  | none => neU x y S
theorem noX_eqX (x y : U) (S : Sto) : noX (eqXU x y S) := by
  unfold eqXU; split
  · trivial
  · exact noX_eq x y S
theorem noX_neX (x y : U) (S : Sto) : noX (neXU x y S) := by
  unfold neXU; split
  · trivial
  · exact noX_ne x y S
def rEqDict (X : Cx) (g : Bool → Bool) : R2 := fun v v' H Q => ∃ a a' ks ls b, v = .ref a ∧ v' = .ref a' ∧ H a = some (.dK ks) ∧ H a' = some (.dK ls) ∧ (∀ (pins : List (Addr × Obj)) (σ : L2.St) (s : Shared), Inv X pins σ H s → ∃ va vb r, s.heap.DictOf (mixKind X.prog X.w) a va ∧ s.heap.DictOf (mixKind X.prog X.w) a' vb ∧ (a == sysModules) = false ∧ (a' == sysModules) = false ∧ PySem.W.KeqHits X.A.in1 s vb va r ∧ b = (va.length == vb.length && r)) ∧ Q (.bl (g b)) H
theorem op_eqDi (hu : X.A.units + 66 < cLine) : OpR X (compareOp .Eq) (rEqDict X id) := by
  intro pins s σ H x y v u Q I rx ry h
  obtain ⟨a, a', ks, ls, b, rfl, rfl, ha, ha', hh, q⟩ := h
  obtain ⟨va, vb, r, da, db, ya, yb, hits, rfl⟩ := hh pins σ s I
  cases (show v = Value.ref a from rx)
  cases (show u = Value.ref a' from ry)
  exact PySem.W.keq_eq ya yb da db (by omega) (fun _ => hits) ⟨.bl _, H, I, rfl, q⟩
theorem op_neDi (hu : X.A.units + 66 < cLine) : OpR X (compareOp .NotEq) (rEqDict X not) := by
  intro pins s σ H x y v u Q I rx ry h
  obtain ⟨a, a', ks, ls, b, rfl, rfl, ha, ha', hh, q⟩ := h
  obtain ⟨va, vb, r, da, db, ya, yb, hits, rfl⟩ := hh pins σ s I
  cases (show v = Value.ref a from rx)
  cases (show u = Value.ref a' from ry)
  exact PySem.W.keq_ne ya yb da db (by omega) (fun _ => hits) ⟨.bl _, H, I, rfl, q⟩
theorem os_eqX (hu : X.A.units + 66 < cLine) : OpSim X (compareOp .Eq) eqXU := by
  obtain ⟨r, hr, hs⟩ := os_eq (X := X) (by omega)
  refine ⟨_, (op_eqDi hu).or hr, fun w x y v v' Q s rx ry h => ?_⟩
  unfold eqXU at h
  split at h
  · rename_i b hb
    obtain ⟨a, a', ks, ls, e1, e2, h1, h2, hh⟩ := op_eqDict hu w s rx ry hb
    exact .inl ⟨a, a', ks, ls, b, e1, e2, h1, h2, hh, OkE.here h s (.bl _)⟩
  · exact .inr (hs w x y v v' Q s rx ry h)
theorem os_neX (hu : X.A.units + 66 < cLine) : OpSim X (compareOp .NotEq) neXU := by
  obtain ⟨r, hr, hs⟩ := os_ne (X := X) (by omega)
  refine ⟨_, (op_neDi hu).or hr, fun w x y v v' Q s rx ry h => ?_⟩
  unfold neXU at h
  split at h
  · rename_i b hb
    obtain ⟨a, a', ks, ls, e1, e2, h1, h2, hh⟩ := op_eqDict hu w s rx ry hb
    exact .inl ⟨a, a', ks, ls, b, e1, e2, h1, h2, hh, OkE.here h s (.bl _)⟩
  · exact .inr (hs w x y v v' Q s rx ry h)
/-! ### == of lists, their items data or dicts -/
def itemB (u v : U) (S : Sto) : Option Bool := match toDS u S, toDS v S with
  | some a, some b => if SeqAt.shaped a && SeqAt.shaped b then some (PyData.eqv a b) else none
  | _, _ => if dEqB u v S = some true then some true else none
def itemsB : List U → List U → Sto → Option (List Bool)
  | [], [], _ => some []
  | u :: us, v :: vs, S => match itemB u v S, itemsB us vs S with
    | some b, some bs => some (b :: bs)
    | _, _ => none
  | _, _, _ => none
def eqLU (x y : U) (S : Sto) : R U := match DL.listOf x S, DL.listOf y S with
  | some a, some b => match itemsB a b S with
    | some bs => .ok (.bl (bs.all id)) S
    | none => eqU x y S
  | _, _ => eqU x y S
theorem noX_eqL (x y : U) (S : Sto) : noX (eqLU x y S) := by
  unfold eqLU; split
  · split
    · trivial
    · exact noX_eq x y S
  · exact noX_eq x y S
theorem itemB_run {pins : List (Addr × Obj)} {σ : L2.St} {w : Wd} {s : Shared} {A : Around} (I : Inv X pins σ w.H s) (sr : SR (KMof X) w) (hu : A.units + 66 < cLine) {u v : U} {x y : V} {vx vy : Value} {b : Bool} (rx : VR (KMof X) w u x) (ry : VR (KMof X) w v y) (r1 : RelV x vx) (r2 : RelV y vy) (h : itemB u v w.S = some b) :
    SeqAt.EqP X.prog X.w A s vx vy b := by
  unfold itemB at h
  split at h
  · rename_i a c ha hc
    split at h
    · rename_i hs
      cases h
      rw [Bool.and_eq_true] at hs
      obtain ⟨as, q1⟩ := Dp.reads I a x vx (toDS_ok sr rx ha) r1
      obtain ⟨bs, q2⟩ := Dp.reads I c y vy (toDS_ok sr ry hc) r2
      exact (SeqAt.eqAt_reads a c A s vx vy as bs q1 q2 (SeqAt.canLay_of_shaped hs.1) (SeqAt.canLay_of_shaped hs.2) (SeqAt.room_of_shaped hs.1 (by omega))).eqP
    · cases h
  · split at h
    · rename_i hd
      cases h
      obtain ⟨a, a', ks, ls, rfl, rfl, h1, h2, hh⟩ := op_eqDict hu w sr rx ry hd
      obtain ⟨va, vb, r, da, db, ya, yb, hits, e⟩ := hh pins σ s I
      cases (show vx = Value.ref a from r1)
      cases (show vy = Value.ref a' from r2)
      by_cases hne : a = a'
      · subst hne
        exact (SeqAt.EqAt.same _).eqP
      · refine SeqAt.eqP_refs hne fun E Q q => PySem.W.keq_eq ya yb da db (by omega) (fun _ => hits) ?_
        rw [← e]
        exact q
    · cases h
theorem itemsB_run {pins : List (Addr × Obj)} {σ : L2.St} {w : Wd} {s : Shared} {A : Around} (I : Inv X pins σ w.H s) (sr : SR (KMof X) w) (hu : A.units + 66 < cLine) :
    ∀ {us vs : List U} {xs ys : List V} {ps qs : List Value} {bs : List Bool}, VRs (KMof X) w us xs → VRs (KMof X) w vs ys → Vals xs ps → Vals ys qs → itemsB us vs w.S = some bs → ps.length = qs.length ∧ bs.length = ps.length ∧ ∀ j (h1 : j < ps.length) (h2 : j < qs.length), SeqAt.EqP X.prog X.w A s ps[j] qs[j] (bs.getD j true)
  | _, _, _, _, _, _, bs, .nil, .nil, .nil, .nil, h => by
    unfold itemsB at h
    cases h
    exact ⟨rfl, rfl, fun j h1 => absurd h1 (Nat.not_lt_zero j)⟩
  | _, _, _, _, _, _, bs, .nil, .cons _ _, _, _, h => by unfold itemsB at h; cases h
  | _, _, _, _, _, _, bs, .cons _ _, .nil, _, _, h => by unfold itemsB at h; cases h
  | _, _, _, _, _, _, bs, .cons (u := u) (us := us) rx rs, .cons (u := v) (us := vs) ry rt, .cons p1 pr, .cons q1 qr, h => by
    unfold itemsB at h
    split at h
    · rename_i b bs' hb hbs
      cases h
      obtain ⟨e1, e2, hk⟩ := itemsB_run I sr hu rs rt pr qr hbs
      refine ⟨by rw [List.length_cons, List.length_cons, e1], by rw [List.length_cons, List.length_cons, e2], fun j h1 h2 => ?_⟩
      cases j with
      | zero => exact itemB_run I sr hu rx ry p1 q1 hb
      | succ j => exact hk j (Nat.lt_of_succ_lt_succ h1) (Nat.lt_of_succ_lt_succ h2)
    · cases h
def rEqLst (X : Cx) : R2 := fun v v' H Q => ∃ (a a' : Addr) (xs ys : List V) (bs : List Bool), v = .ref a ∧ v' = .ref a' ∧ SqL X.K H a xs ∧ SqL X.K H a' ys ∧ (∀ (pins : List (Addr × Obj)) (σ : L2.St) (s : Shared) (ps qs : List Value), Inv X pins σ H s → Vals xs ps → Vals ys qs → ps.length = qs.length ∧ bs.length = ps.length ∧ ∀ j (h1 : j < ps.length) (h2 : j < qs.length), SeqAt.EqP X.prog X.w X.A.in1 s ps[j] qs[j] (bs.getD j true)) ∧ Q (.bl (bs.all id)) H
theorem all_range (bs : List Bool) : ((List.range bs.length).all fun j => bs.getD j true) = bs.all id := by
  rw [Bool.eq_iff_iff, List.all_eq_true, List.all_eq_true]
  constructor
  · intro h b hb
    obtain ⟨i, hi, rfl⟩ := List.mem_iff_getElem.mp hb
    have := h i (List.mem_range.mpr hi)
    rw [List.getD_eq_getElem?_getD, List.getElem?_eq_getElem hi] at this
    exact this
  · intro h j hj
    have hj := List.mem_range.mp hj
    rw [List.getD_eq_getElem?_getD, List.getElem?_eq_getElem hj]
    exact h _ (List.getElem_mem hj)
theorem op_eqLst (hu : X.A.units + 66 < cLine) : OpR X (compareOp .Eq) (rEqLst X) := by
  intro pins s σ H x y v u Q I rx ry h
  obtain ⟨a, a', xs, ys, bs, rfl, rfl, ha, hb, hh, q⟩ := h
  cases (show v = Value.ref a from rx)
  cases (show u = Value.ref a' from ry)
  obtain ⟨us, r1, p1, _⟩ := I.list ha
  obtain ⟨ws, r2, p2, _⟩ := I.list hb
  obtain ⟨e1, e2, hk⟩ := hh pins σ s us ws I r1 r2
  refine SeqAt.rcP_lists (e := fun j => bs.getD j true) p1.isList p2.isList (by rw [List.size_toArray, List.size_toArray]; exact e1) (by omega) (fun j h1 h2 => ?_) _ _ ?_
  · have k := hk j (by simpa using h1) (by simpa using h2)
    simpa using k
  · rw [List.size_toArray, ← e2, all_range]
    exact ⟨.bl _, H, I, rfl, q⟩
theorem os_eqL (hu : X.A.units + 67 < cLine) : OpSim X (compareOp .Eq) eqLU := by
  obtain ⟨r, hr, hs⟩ := os_eq (X := X) (by omega)
  refine ⟨_, (op_eqLst (by omega)).or hr, fun w x y v v' Q s rx ry h => ?_⟩
  unfold eqLU at h
  split at h
  · rename_i a b ha hb
    split at h
    · rename_i bs hbs
      obtain ⟨p, xs, rfl, q, rs⟩ := listOf_ok s rx ha
      obtain ⟨p', ys, rfl, q', rs'⟩ := listOf_ok s ry hb
      exact .inl ⟨p, p', xs, ys, bs, rfl, rfl, q, q', fun pins σ sh ps qs I h1 h2 => itemsB_run I s (by show X.A.units + 1 + 66 < cLine; omega) rs rs' h1 h2 hbs, OkE.here h s (.bl _)⟩
    · exact .inr (hs w x y v v' Q s rx ry h)
  · exact .inr (hs w x y v v' Q s rx ry h)
end
end DL

set_option Elab.async false
set_option linter.all false
set_option maxRecDepth 100000
namespace DL
open PySem PySem.Spec L2 PySem.W
/-! ### own exception classes: what the written part tells -/
def clsInit (s : Stmt) : Stmt := match s with
  | .ClassDef _ _ _ body _ _ _ _ _ _ _ => body.getD 0 (.Pass ⟨0, 0, 0, 0⟩)
  | s => s
def oxB (K : Frag) (C I : Addr) (f : Str) (bm : List Value) : Bool :=
  decide (findIn K (.ref C) "__setattr__" = some (some (.builtin "object.__setattr__"))) && (decide (subIn K (.ref C) (.type "BaseException") = some true) && (decide (typeIn K (.ref C) = some (.type "type")) && (keepIn K (.ref C) && (excOver K C bm && (hasDictIn K C && (decide (typeIn K (.ref I) = some (.type "function")) && (decide (findIn K (.ref C) f = some none) &&
  (decide (findIn K (.ref C) "__getattribute__" = some (some (.builtin "BaseException.__getattribute__"))) && (decide (findIn K (.ref C) "__getattr__" = some none) && (decide (findIn K (.ref C) "__class__" = some (some (.builtin "object.__class__"))) && (decide (specialIn K (.builtin "object.__class__") "__get__" = some (some (.builtin "getset_descriptor.__get__"))) && (decide (takesIn K (.builtin "object.__class__") = some true) && decide (mroIn K C (.type "object") = some true)))))))))))))
structure XC (K : Frag) (mg : Str → Option Value) (x xi f : Str) (C I : Addr) (fd : FuncData) (st : Stmt) (newId : String) (bm : List Value) : Prop where
  mc : mg x = some (.ref C)
  ox : OxC K C newId bm
  ic : findIn K (.ref C) "__init__" = some (some (.ref I))
  ti : typeIn K (.ref I) = some (.type "function")
  fi : Fun K "__init__" (x ++ ".__init__") st I fd
  bi : Binds K fd ["self", xi] []
  nf : findIn K (.ref C) f = some none
  xf : XfC K C
  ec : ExcC K C
theorem xc_mk {K : Frag} {mg : Str → Option Value} {x xi f : Str} {C I : Addr} {fd : FuncData} {st : Stmt} {newId : String} {bm : List Value} {nm q : Str} {N : Addr} {bs : List Value} {sn : List Str} {sub : List Value} {ab : Bool} {col : Option Bool} {dd : Option Addr} {m0 m1 m2 m3 m5 : Option Value}
    (mc : mg x = some (.ref C)) (l : K.lookup C = some (excClassObj nm q C N bs bm true sn sub ab col dd m0 m1 m2 m3 m5 newId)) (ic : findIn K (.ref C) "__init__" = some (some (.ref I))) (fi : Fun K "__init__" (x ++ ".__init__") st I fd) (bi : Binds K fd ["self", xi] []) (h : oxB K C I f bm = true) : XC K mg x xi f C I fd st newId bm := by
  unfold oxB at h
  simp only [Bool.and_eq_true, decide_eq_true_eq] at h
  obtain ⟨h1, h2, h3, h4, h5, h6, h7, h8, h9, h10, h11, h12, h13, h14⟩ := h
  exact ⟨mc, ⟨⟨nm, q, N, bs, sn, sub, ab, col, dd, m0, m1, m2, m3, m5, l⟩, h1, h2, h3, h4, h5, h6⟩, ic, h7, fi, bi, h8, ⟨h9, h10, h2, h6⟩, ⟨h9, h10, h2, h6, h11, h12, h13, h14⟩⟩
/-- the answers of isinstance -/
def isB (K : Frag) : List (Addr × Value × Bool) → Bool
  | [] => true
  | (C, v, b) :: r => decide (kitOne K (.ref C) v = some b) && isB K r
theorem IsOk.n {K : Frag} {mg : Str → Option Value} : isB K [] = true → IsOk K mg [] := fun _ => ⟨fun _ _ _ h => (by cases h), fun _ _ _ h => (by cases h)⟩
theorem IsOk.o {K : Frag} {mg : Str → Option Value} {tab : IsTab} {c c2 : Str} {C C2 : Addr} {b : Bool} {L : List (Addr × Value × Bool)} (hm : mg c = some (.ref C)) (hm2 : mg c2 = some (.ref C2)) (E : ExcC K C) (r : isB K L = true → IsOk K mg tab) : isB K ((C, .ref C2, b) :: L) = true → IsOk K mg (((c, .inl c2), b) :: tab) := fun h => by
  unfold isB at h
  rw [Bool.and_eq_true] at h
  have r := r h.2
  have hk := of_decide_eq_true h.1
  refine ⟨fun x y d hl D D2 hD hD2 => ?_, fun x n d hl D hD => ?_⟩
  · unfold lookI at hl
    split at hl
    · rename_i q
      obtain ⟨rfl, q⟩ := q
      cases q
      cases hl
      rw [hm] at hD
      rw [hm2] at hD2
      cases hD
      cases hD2
      exact ⟨E, hk⟩
    · exact r.own x y d hl D D2 hD hD2
  · unfold lookI at hl
    split at hl
    · rename_i q
      cases q.2
    · exact r.blt x n d hl D hD
theorem IsOk.t {K : Frag} {mg : Str → Option Value} {tab : IsTab} {c : Str} {n : String} {C : Addr} {b : Bool} {L : List (Addr × Value × Bool)} (hm : mg c = some (.ref C)) (E : ExcC K C) (r : isB K L = true → IsOk K mg tab) : isB K ((C, .type n, b) :: L) = true → IsOk K mg (((c, .inr n), b) :: tab) := fun h => by
  unfold isB at h
  rw [Bool.and_eq_true] at h
  have r := r h.2
  have hk := of_decide_eq_true h.1
  refine ⟨fun x y d hl D D2 hD hD2 => ?_, fun x n d hl D hD => ?_⟩
  · unfold lookI at hl
    split at hl
    · rename_i q
      cases q.2
    · exact r.own x y d hl D D2 hD hD2
  · unfold lookI at hl
    split at hl
    · rename_i q
      obtain ⟨rfl, q⟩ := q
      cases q
      cases hl
      rw [hm] at hD
      cases hD
      exact ⟨E, hk⟩
    · exact r.blt x n d hl D hD
abbrev iO (c d : Str) (b : Bool) : (Str × (Str ⊕ String)) × Bool := ((c, .inl d), b)
abbrev iT (c : Str) (d : String) (b : Bool) : (Str × (Str ⊕ String)) × Bool := ((c, .inr d), b)
abbrev kO (c d : Addr) (b : Bool) : Addr × Value × Bool := (c, .ref d, b)
abbrev kT (c : Addr) (d : String) (b : Bool) : Addr × Value × Bool := (c, .type d, b)
/-- what an except clause takes -/
def exB (K : Frag) (c : Value) : List (Addr × Bool) → Bool
  | [] => true
  | (C, b) :: r => decide (exmOne K (.ref C) c = some b) && exB K c r
def lookM : List (Str × Bool) → Str → Option Bool
  | [], _ => none
  | (c, b) :: r, z => if c = z then some b else lookM r z
def ExOk (K : Frag) (mg : Str → Option Value) (c : Value) (m : Str → Option Bool) : Prop := ∀ z b, m z = some b → ∀ cls, mg z = some cls → exmOne K cls c = some b ∧ ∃ C, cls = .ref C
theorem ExOk.n {K : Frag} {mg : Str → Option Value} {c : Value} : exB K c [] = true → ExOk K mg c (lookM []) := fun _ z b h => by cases h
theorem ExOk.o {K : Frag} {mg : Str → Option Value} {c : Value} {x : Str} {C : Addr} {b : Bool} {L : List (Addr × Bool)} {tab : List (Str × Bool)} (hm : mg x = some (.ref C)) (r : exB K c L = true → ExOk K mg c (lookM tab)) : exB K c ((C, b) :: L) = true → ExOk K mg c (lookM ((x, b) :: tab)) := fun h z d hl cls hc => by
  unfold exB at h
  rw [Bool.and_eq_true] at h
  unfold lookM at hl
  split at hl
  · rename_i q
    subst q
    cases hl
    rw [hm] at hc
    cases hc
    exact ⟨of_decide_eq_true h.1, C, rfl⟩
  · exact r h.2 z d hl cls hc
theorem fn_bad {P : Program} {w : World} {K : PySem.W.Frag} {mg : Str → Option Value} {base : Heap} {f : Addr} {fd : FuncData} {ps : List Str} {g : List U → Sto → R U} (hg : ∀ us S, g us S = .bad) (n k : Nat) : FnOk P w K mg base (L2.CX P w) k f fd ps (spOf ⟨K, mg, P, w⟩ n g) := by
  have no : ∀ vs H Q E, ¬ spOf ⟨K, mg, P, w⟩ n g vs H Q E := fun vs H Q E ⟨w, us, _, _, _, _, q⟩ => by rw [hg] at q; exact q
  exact ⟨fun vs H Q E h => (no vs H Q E h).elim, fun A outer s H as us vs Q E _ _ _ _ h => (no vs H Q E h).elim⟩
end DL

set_option Elab.async false
set_option linter.all false
set_option maxRecDepth 100000
namespace DL
open PySem PySem.Spec L2
/-! ### sorted(set(texts)) -/
def nubT : List Str → List Str
  | [] => []
  | x :: r => if x ∈ r then nubT r else x :: nubT r
theorem nubT_mem {x : Str} : ∀ {l : List Str}, x ∈ nubT l ↔ x ∈ l
  | [] => Iff.rfl
  | y :: r => by
    unfold nubT
    by_cases h : y ∈ r
    · rw [if_pos h, nubT_mem, List.mem_cons]
      exact ⟨.inr, fun q => q.elim (fun e => e ▸ h) id⟩
    · rw [if_neg h, List.mem_cons, List.mem_cons, nubT_mem]
theorem nubT_nodup : ∀ l : List Str, (nubT l).Nodup
  | [] => List.nodup_nil
  | y :: r => by
    unfold nubT
    by_cases h : y ∈ r
    · rw [if_pos h]; exact nubT_nodup r
    · rw [if_neg h]; exact List.nodup_cons.mpr ⟨fun q => h (nubT_mem.mp q), nubT_nodup r⟩
theorem set_sorted {ys ks : List Str} (h1 : PyProof.Rows.sortedS ys = true) (h2 : ys.Nodup) (h3 : ∀ k, k ∈ ys ↔ decide (k ∈ ks) = true) : ys = sortT (nubT ks) := by
  refine sorted_eq ?_ h1
  rw [List.perm_ext_iff_of_nodup h2 (nubT_nodup ks)]
  intro a
  rw [h3, decide_eq_true_eq, nubT_mem]
def sortSetC (us : List U) (S : Sto) : R (List U) := match us with
  | [u] => match (DL.listOf u S).bind strsOf with
    | some zs => guard (decide (zs.length < 64)) (.ok ((sortT (nubT zs)).map .str) S)
    | none => .bad
  | _ => .bad
section
variable {X : Cx} {Wx : WX}
theorem sl_sortSet {e : Expr} {fa : FA} {p p2 pos pos2 : Pos} (hc : X.calm = true) (hg : Gl X "sorted") (hm : X.mg "sorted" = none) (hg2 : Gl X "set") (hm2 : X.mg "set" = none) (ha : SimA X Wx [e] fa)
    (he : starEach [.Call (.Name "set" p2) [e] [] pos2] X.env = (false, eval (.Call (.Name "set" p2) [e] [] pos2) X.env) :: starEach [] X.env := by rfl) (he2 : starEach [e] X.env = (false, eval e X.env) :: starEach [] X.env := by rfl)
    (hpl : (backTo pos (starEach [] X.env)).any (·.1) = false := by rfl) (hpl2 : (backTo pos2 (starEach [] X.env)).any (·.1) = false := by rfl) :
    SimL X Wx (.Call (.Name "sorted" p) [.Call (.Name "set" p2) [e] [] pos2] [] pos) (fA sortSetC fa) := by
  obtain ⟨ta, pa, ha⟩ := ha.out
  have P1 := pe_callTy (T := "set") (p := p2) (pos := pos2) (cr_setTx hc) hg2 hm2 (by decide +kernel) pa (by decide) (by decide) he2 hpl2
  have P2 := pe_callB (id := "sorted") (p := p) (pos := pos) (cr_sortTx hc) hg hm (by decide +kernel) (pa_cons P1 pa_nil he) (by decide) (by decide) he hpl
  refine SimL.mk P2 (fun w d σ Q s e h => ?_)
  refine ha w d σ _ s e ((Pst.of_bind h).mono (fun us S1 h1 w1 vs eS st s1 rs => ?_) fun _ _ q => q)
  subst eS
  unfold sortSetC at h1
  split at h1
  · split at h1
    · rename_i u zs hb
      obtain ⟨hl, h1⟩ := guard_post h1
      have hl := of_decide_eq_true hl
      cases rs with
      | cons r rs =>
        cases rs
        obtain ⟨ls, hls, hzs⟩ := Option.bind_eq_some_iff.mp hb
        obtain ⟨a, xs, rfl, q, rx⟩ := listOf_ok s1 r hls
        have e := strsOf_ok rx hzs
        subst e
        refine ⟨a, zs, rfl, q, by omega, fun p' c hp hcl => ?_⟩
        refine ⟨p', _, c, rfl, upd_same, by omega, fun ys p'' so nd mm hp2 => ?_⟩
        have st1 := Stp.new s1 (o := SsO X.prog X.w p' (fun j => decide (j ∈ zs)) c) hp
        have := set_sorted so nd mm
        subst this
        exact h1 (w1.new p' _) p'' _ rfl (st.trans st1) (s1.new hp) (strs_rel _) hp2
    · exact h1.elim
  · exact h1.elim
end
end DL

set_option Elab.async false
set_option linter.all false
set_option maxRecDepth 100000
namespace DL
open PySem PySem.Spec L2
/-! ### own classes: instances are objects of the store -/
def getF : List (Str × U) → Str → Option U
  | [], _ => none
  | (g, u) :: r, f => if f == g then some u else getF r f
def setF (f : Str) (u : U) : List (Str × U) → List (Str × U)
  | [] => [(f, u)]
  | (g, v) :: r => if g = f then (g, u) :: r else (g, v) :: setF f u r
section
variable {K : KM} {w : Wd}
theorem getF_ok {f : Str} : ∀ {fs : List (Str × U)} {xs : List V}, VRs K w (fs.map (·.2)) xs → (∀ u, getF fs f = some u → ∃ v, ((fs.map (·.1)).zip xs).lookup f = some v ∧ VR K w u v) ∧ (getF fs f = none → ((fs.map (·.1)).zip xs).lookup f = none)
  | [], xs, _ => ⟨fun u h => (by cases h), fun _ => rfl⟩
  | (g, y) :: fs, xs, h => by
    cases h with
    | @cons _ _ x xs r rs =>
      obtain ⟨h1, h2⟩ := getF_ok (f := f) (fs := fs) rs
      have e : (((g, y) :: fs).map (·.1)).zip (x :: xs) = (g, x) :: (fs.map (·.1)).zip xs := rfl
      rw [e]
      unfold getF List.lookup
      cases hb : f == g with
      | true => exact ⟨fun u q => (by cases q; exact ⟨x, rfl, r⟩), fun q => (by cases q)⟩
      | false => exact ⟨h1, h2⟩
theorem setF_ok {f : Str} {u : U} {v : V} (r : VR K w u v) : ∀ {fs : List (Str × U)} {xs : List V}, VRs K w (fs.map (·.2)) xs → ∃ xs', putF f v ((fs.map (·.1)).zip xs) = ((setF f u fs).map (·.1)).zip xs' ∧ VRs K w ((setF f u fs).map (·.2)) xs'
  | [], xs, _ => ⟨[v], rfl, .cons r .nil⟩
  | (g, y) :: fs, xs, h => by
    cases h with
    | @cons _ _ x xs q qs =>
      obtain ⟨xs', e, rs⟩ := setF_ok r (fs := fs) qs
      have e0 : (((g, y) :: fs).map (·.1)).zip (x :: xs) = (g, x) :: (fs.map (·.1)).zip xs := rfl
      rw [e0]
      unfold putF setF
      by_cases hg : g = f
      · rw [if_pos hg, if_pos hg]
        exact ⟨v :: xs, rfl, .cons r qs⟩
      · rw [if_neg hg, if_neg hg, e]
        exact ⟨x :: xs', rfl, .cons q rs⟩
/-- an instance of c that has no own m -/
def isIns (c m : Str) (u : U) (S : Sto) : Bool := match u with
  | .loc n => match S[n]? with
    | some (.ins c' fs) => decide (c' = c) && (getF fs m).isNone
    | _ => false
  | _ => false
theorem isIns_ok {c m : Str} {u : U} {v : V} {C : Addr} (s : SR K w) (hm : K.mg c = some (.ref C)) (r : VR K w u v) (h : isIns c m u w.S = true) : ∃ a dx fs, v = .ref a ∧ w.H a = some (.ins C dx fs) ∧ fs.lookup m = none := by
  unfold isIns at h
  split at h
  · rename_i n
    split at h
    · rename_i c' fs hS
      rw [Bool.and_eq_true] at h
      have e := of_decide_eq_true h.1
      subst e
      cases r with
      | @loc _ a hn =>
        obtain ⟨C', dx, xs, hC, e, rs⟩ := s.obj n a _ hn hS
        rw [hm] at hC
        cases hC
        exact ⟨a, dx, _, rfl, e, (getF_ok rs).2 (Option.isNone_iff_eq_none.mp h.2)⟩
    · cases h
  · cases h
end
section
variable {X : Cx} {Wx : WX}
/-- o.f, of an instance of c -/
def fGet (c f : Str) (fe : FE) : FE := fun d S => (fe d S).bind fun u S1 => match u with
  | .loc n => match S1[n]? with
    | some (.ins c' fs) => if c' = c then oU (getF fs f) S1 else .bad
    | _ => .bad
  | _ => .bad
theorem se_get {e : Expr} {fe : FE} {c f : Str} {C : Addr} {pos : Pos} (hm : X.mg c = some (.ref C)) (cl : Cls X.K C) (na : NoAttr X.K C f) (he : SimE X Wx e fe) (hb : attributeBase e f X.env (eval e X.env) = eval e X.env := by rfl) : SimE X Wx (.Attribute e f pos) (fGet c f fe) := by
  obtain ⟨t, p, he⟩ := he.out
  refine SimE.mk (L2.pe_fld p hb) (fun w d σ Q s e h => ?_)
  refine he w d σ _ s e ((Pst.of_bind h).mono (fun u S1 h1 w1 v eS st s1 r => ?_) fun _ _ q => q)
  subst eS
  split at h1
  · rename_i n
    split at h1
    · rename_i c' fs hS
      split at h1
      · rename_i hc
        subst hc
        unfold oU at h1
        split at h1
        · rename_i y hy
          cases r with
          | @loc _ a hn =>
            obtain ⟨C', dx, xs, hC, e, rs⟩ := s1.obj n a _ hn hS
            rw [show (KMof X).mg c' = some (.ref C) from hm] at hC
            cases hC
            obtain ⟨v, hv, rv⟩ := (getF_ok rs).1 y hy
            exact ⟨a, C, dx, _, v, rfl, e, cl, na, hv, h1 w1 v rfl st s1 rv⟩
        · exact h1.elim
      · exact h1.elim
    · exact h1.elim
  · exact h1.elim
/-- o.f = e -/
def fPutF (c f : Str) (fo fe : FE) : FS := fun d S => toS d (fe d S) fun v S1 => toS d (fo d S1) fun u S2 => match u with
  | .loc n => match S2[n]? with
    | some (.ins c' fs) => if c' = c ∧ fs.length < 1000 then .ok (.nx d) (S2.set n (.ins c (setF f v fs))) else .bad
    | _ => .bad
  | _ => .bad
theorem zip_le {fs : List (Str × U)} {xs : List V} : ((fs.map (·.1)).zip xs).length ≤ fs.length := by
  rw [List.length_zip, List.length_map]
  exact Nat.min_le_left _ _
theorem ss_putF {o e : Expr} {fo fe : FE} {c f : Str} {C : Addr} {p' pos : Pos} (hm : X.mg c = some (.ref C)) (cl : Cls X.K C) (na : NoAttr X.K C f) (ho : SimE X Wx o fo) (he : SimE X Wx e fe) (hs : swapsWith e (some (.Attribute o f p')) pos.line X.env = pure false := by rfl) : SimS X Wx (.Assign [.Attribute o f p'] e pos) (fPutF c f fo fe) := by
  obtain ⟨tt, p, ho⟩ := ho.out
  obtain ⟨te, pe, he⟩ := he.out
  refine SimS.mk (ps_fld p pe hs) (fun w d σ D s e h => ?_)
  refine he w d σ _ s e ((toS_post s e h).mono (fun y S1 h1 w1 v eS st s1 r => ?_) fun _ _ q => q)
  subst eS
  have e1 := e.ext st.x s
  refine ho w1 d σ _ s1 e1 ((toS_post s1 e1 (Pst.mono h1 (fun _ _ q => q.up st) fun _ _ q => q)).mono (fun u S2 h2 w2 v2 eS2 st2 s2 r2 => ?_) fun _ _ q => q)
  subst eS2
  split at h2
  · rename_i n
    split at h2
    · rename_i c' fs hS
      split at h2
      · rename_i hc
        obtain ⟨hc, hl⟩ := hc
        subst hc
        cases r2 with
        | @loc _ a hn =>
          obtain ⟨C', dx, xs, hC, e, rs⟩ := s2.obj n a _ hn hS
          rw [show (KMof X).mg c' = some (.ref C) from hm] at hC
          cases hC
          obtain ⟨xs', ex, rs'⟩ := setF_ok (f := f) (r.ext st2.x s1) rs
          refine ⟨a, C, dx, _, rfl, e, cl, na, Nat.lt_of_le_of_lt zip_le hl, ?_⟩
          rw [ex]
          have hd : Ob.ins c' fs ≠ .dead := by intro z; cases z
          have st3 := Stp.put s2 (o := .ins C dx (((setF f y fs).map (·.1)).zip xs')) (b := .ins c' (setF f y fs)) hn hS hd
          exact h2 (w2.put n a _ _) rfl (st2.trans st3) (s2.put hn hS hd ⟨C, dx, xs', hm, upd_same, rs'.ext st3.x s2⟩) σ ((e1.ext st2.x s1).ext st3.x s2)
      · exact h2.elim
    · exact h2.elim
  · exact h2.elim
/-! ### methods -/
def tMethSD (C : Addr) (m : Str) (sp : Sp) (E : L2.St → XK) (ta : TE) (t : TA) : TE := fun σ H Q => ta σ H fun x H1 => ∃ a dx fs, x = .ref a ∧ H1 a = some (.ins C dx fs) ∧ fs.lookup m = none ∧ t σ H1 fun vs H2 => sp (x :: vs) H2 Q (E σ)
section
variable {CX : CXT} {k : Nat} {f C : Addr} {fd : FuncData} {ps : List Str} {sp : Sp} {E : L2.St → XK} {x m : Str} {p pos apos : Pos} {e o : Expr} {es : List Expr} {ta : TE} {t : TA}
theorem pe_methSD {pl : Sem Bool} (he : PE X o ta) (c : Cls X.K C) (hm : Meth X.K C m f) (F : FnOk X.prog X.w X.K X.mg X.base CX k f fd ps sp) (hr : Room k X.A) (hb : Binds X.K fd ps []) (hx : ∀ σ, PassesAt CX X σ (E σ)) (ha : PA X (e :: es) t)
    (hst : starEach (e :: es) X.env = (false, eval e X.env) :: starEach es X.env) (hpl : (backTo pos (starEach es X.env)).any (·.1) = false)
    (ht : eval (.Call (.Attribute o m apos) (e :: es) [] pos) X.env = (do
      let ov ← eval o X.env
      standAt apos.atName
      let (f, first) ← holding [ov] (getMethod ov m pl)
      callWith pos f first (backTo pos (starEach (e :: es) X.env)) (backToKw pos (keywordEach [] X.env)))) : PE X (.Call (.Attribute o m apos) (e :: es) [] pos) (tMethSD C m sp E ta t) := by
  refine ⟨fun pins s σ H Q I h => PySem.W.methodCall_KW (pl := pl) (thn (he.run pins s σ H _ I h) fun u s1 ⟨x, H1, I1, rx, a, dx, fs, ex, ea, l, q⟩ => ?_) ht⟩
  subst ex
  obtain rfl : u = Value.ref a := rx
  refine getmeth_ok I1 ea c hm l (PySem.W.callWith_K (first := [.ref a]) (h₀ := X.base) I.ok.mod.kin hm.kp (thn (ha.run pos pins s1 σ H1 _ I1 q) fun us s2 ⟨vs, H2, I2, r, q2⟩ => ⟨I2.kIn, ?_⟩) hst hpl)
  exact run_fnSD (us := .ref a :: us) (vs := .ref a :: vs) (E := E) F hr hb .nil (hx σ) I2 (.cons rfl r) (by rw [List.append_nil]; exact q2)
theorem pe_methSD0 {pl : Sem Bool} (he : PE X o ta) (c : Cls X.K C) (hm : Meth X.K C m f) (F : FnOk X.prog X.w X.K X.mg X.base CX k f fd ps sp) (hr : Room k X.A) (hb : Binds X.K fd ps []) (hx : ∀ σ, PassesAt CX X σ (E σ))
    (ht : eval (.Call (.Attribute o m apos) [] [] pos) X.env = (do
      let ov ← eval o X.env
      standAt apos.atName
      let (f, first) ← holding [ov] (getMethod ov m pl)
      callWith pos f first (backTo pos (starEach [] X.env)) (backToKw pos (keywordEach [] X.env)))) : PE X (.Call (.Attribute o m apos) [] [] pos) (tMethSD C m sp E ta tNil) := by
  refine ⟨fun pins s σ H Q I h => PySem.W.methodCall_KW (pl := pl) (thn (he.run pins s σ H _ I h) fun u s1 ⟨x, H1, I1, rx, a, dx, fs, ex, ea, l, q⟩ => ?_) ht⟩
  subst ex
  obtain rfl : u = Value.ref a := rx
  exact getmeth_ok I1 ea c hm l (PySem.W.callWith_K0 (first := [.ref a]) I1.kIn hm.kp (run_fnSD (us := [.ref a]) (vs := [.ref a]) (E := E) F hr hb .nil (hx σ) I1 (.cons rfl .nil) q))
end
def fMeth (c m : Str) (n : Nat) (g : List U → Sto → R U) (fo : FE) (fa : FA) : FE := fun d S => (fo d S).bind fun u S1 => guard (isIns c m u S1) ((fa d S1).bind fun us S2 => guard (us.length + 1 == n) (g (u :: us) S2))
section
variable {k n : Nat} {f C : Addr} {fd : FuncData} {ps : List Str} {c m : Str} {p pos apos : Pos} {e o : Expr} {es : List Expr} {fo : FE} {fa : FA} {g : List U → Sto → R U}
theorem meth_core {to : TE} {ta : TA} (hm : X.mg c = some (.ref C))
    (ho : ∀ (w : Wd) (d : En) (σ : L2.St) (Q : VK), SR (KMof X) w → ER (KMof X) w d σ → Pst (fo d w.S) (OkE X w Q) (XPost X Wx σ w) → to σ w.H Q)
    (ha : ∀ (w : Wd) (d : En) (σ : L2.St) (Q : List V → Hp → Prop), SR (KMof X) w → ER (KMof X) w d σ → Pst (fa d w.S) (OkA X w Q) (XPost X Wx σ w) → ta σ w.H Q)
    (w : Wd) (d : En) (σ : L2.St) (Q : VK) (s : SR (KMof X) w) (e : ER (KMof X) w d σ) (h : Pst (fMeth c m n g fo fa d w.S) (OkE X w Q) (XPost X Wx σ w)) :
    tMethSD C m (spOf (KMof X) n g) (fun σ c d H => Wx c d σ H) to ta σ w.H Q := by
  refine ho w d σ _ s e ((Pst.of_bind h).mono (fun u S1 h1 w1 v eS st s1 r => ?_) fun _ _ q => q)
  subst eS
  obtain ⟨hi, h1⟩ := guard_post h1
  obtain ⟨a, dx, fs, rfl, ea, l⟩ := isIns_ok s1 hm r hi
  refine ⟨a, dx, fs, rfl, ea, l, ?_⟩
  refine ha w1 d σ _ s1 (e.ext st.x s) ((Pst.of_bind h1).mono (fun us S2 h2 w2 vs eS2 st2 s2 rs => ?_) fun _ _ q => q.up st)
  subst eS2
  obtain ⟨hl, h2⟩ := guard_post h2
  exact ⟨w2, u :: us, rfl, s2, .cons (r.ext st2.x s1) rs, eq_of_beq hl, h2.mono (fun y S3 q w3 v3 e3 st3 s3 r3 => q w3 v3 e3 ((st.trans st2).trans st3) s3 r3) fun x S3 q w3 cls dd e3 st3 s3 xr => q w3 cls dd e3 ((st.trans st2).trans st3) s3 xr⟩
theorem se_meth {pl : Sem Bool} (F : FnOk X.prog X.w X.K X.mg X.base (L2.CX X.prog X.w) k f fd ps (spOf (KMof X) n g)) (hr : Room k X.A) (hx : PasX X Wx) (hm : X.mg c = some (.ref C)) (cl : Cls X.K C) (me : Meth X.K C m f) (hb : Binds X.K fd ps []) (ho : SimE X Wx o fo) (ha : SimA X Wx (e :: es) fa)
    (hst : starEach (e :: es) X.env = (false, eval e X.env) :: starEach es X.env := by rfl) (hpl : (backTo pos (starEach es X.env)).any (·.1) = false := by rfl)
    (ht : eval (.Call (.Attribute o m apos) (e :: es) [] pos) X.env = (do
      let ov ← eval o X.env
      standAt apos.atName
      let (f, first) ← holding [ov] (getMethod ov m pl)
      callWith pos f first (backTo pos (starEach (e :: es) X.env)) (backToKw pos (keywordEach [] X.env))) := by rfl) : SimE X Wx (.Call (.Attribute o m apos) (e :: es) [] pos) (fMeth c m n g fo fa) := by
  obtain ⟨to, po, ho⟩ := ho.out
  obtain ⟨ta, pa, ha⟩ := ha.out
  exact SimE.mk (pe_methSD (pl := pl) po cl me F hr hb hx pa hst hpl ht) (fun w d σ Q s e h => meth_core hm ho ha w d σ Q s e h)
theorem se_meth0 {pl : Sem Bool} (F : FnOk X.prog X.w X.K X.mg X.base (L2.CX X.prog X.w) k f fd ps (spOf (KMof X) n g)) (hr : Room k X.A) (hx : PasX X Wx) (hm : X.mg c = some (.ref C)) (cl : Cls X.K C) (me : Meth X.K C m f) (hb : Binds X.K fd ps []) (ho : SimE X Wx o fo)
    (ht : eval (.Call (.Attribute o m apos) [] [] pos) X.env = (do
      let ov ← eval o X.env
      standAt apos.atName
      let (f, first) ← holding [ov] (getMethod ov m pl)
      callWith pos f first (backTo pos (starEach [] X.env)) (backToKw pos (keywordEach [] X.env))) := by rfl) : SimE X Wx (.Call (.Attribute o m apos) [] [] pos) (fMeth c m n g fo aNil) := by
  obtain ⟨to, po, ho⟩ := ho.out
  exact SimE.mk (pe_methSD0 (pl := pl) po cl me F hr hb hx ht) (fun w d σ Q s e h => meth_core (fa := aNil) hm ho (fun w d σ Q s e h => h w [] rfl (Stp.refl w) s .nil) w d σ Q s e h)
end
/-! ### C(..) -/
def tMakeSD (C : Addr) (sp : Sp) (E : L2.St → XK) (t : TA) : TE := fun σ H Q => t σ H fun vs H1 => ∀ x dx, H1 x = none → H1 dx = none → dx ≠ x → sp (.ref x :: vs) (upd (upd H1 dx (.own x)) x (.ins C dx [])) (fun v H2 => v = .non ∧ Q (.ref x) H2) (E σ)
section
variable {CX : CXT} {k : Nat} {f C : Addr} {fd : FuncData} {ps : List Str} {sp : Sp} {E : L2.St → XK} {x : Str} {p pos : Pos} {e : Expr} {es : List Expr} {t : TA}
theorem run_makeSD {pins : List (Addr × Obj)} {σ : L2.St} {H : Hp} {s : Shared} {Q : VK} {us : List Value} {vs : List V} (M : Mk X.K C f) (F : FnOk X.prog X.w X.K X.mg X.base CX k f fd ps sp) (hr : Room (k + 1) X.A) (hb : Binds X.K fd ps []) (hx : PassesAt CX X σ (E σ)) (hxm : ∀ (pins : List (Addr × Obj)) (H : Hp) (s : Shared) (e : Value) (s' : Shared), Inv X pins σ H s → CX X.stack H s (E σ) e s' → X.xe e s') (I : Inv X pins σ H s) (r : Vals vs us)
    (h : ∀ x dx, H x = none → H dx = none → dx ≠ x → sp (.ref x :: vs) (upd (upd H dx (.own x)) x (.ins C dx [])) (fun v H2 => v = .non ∧ Q (.ref x) H2) (E σ)) : wpAny (model X.prog X.w) X.A (call (.ref C) us) (EP X pins σ Q) X.xe s := by
  have hq := h (s.heap.objs.size + 1) s.heap.objs.size (I.hok.fresh (Nat.le_succ _)) (I.hok.fresh (Nat.le_refl _)) (Nat.ne_of_lt (Nat.lt_succ_self _))
  have J := Inv.made (C := C) I
  have rr : Vals (V.ref (s.heap.objs.size + 1) :: vs) (Value.ref (s.heap.objs.size + 1) :: us) := .cons rfl r
  have hl : (Value.ref (s.heap.objs.size + 1) :: us ++ []).length = ps.length := by
    rw [List.append_nil, ← rr.length]
    exact F.len _ _ _ _ hq
  have bb := hb _ (Value.ref (s.heap.objs.size + 1) :: us) J.kIn hl
  rw [List.append_nil] at bb
  refine wpAny_call (make_map (f := f) I.kIn M.makes M.init (beq_iff_eq.mp M.fn) (codeAny_mono (F.run _ X.stack _ _ _ _ _ _ (E σ) (hr.make C us []) (J.env0.make C us []) bb rr hq) fun rs s' hq' => ?_))
  cases rs with
  | error er => exact hxm pins _ _ er s' J hq'
  | ok fl =>
    cases fl with
    | ret u =>
      obtain ⟨v, H', I3, rv, ev, q3⟩ := J.after hq'
      subst ev
      exact ⟨rv, ⟨V.ref (s.heap.objs.size + 1), H', I3, rfl, q3⟩⟩
    | next => exact False.elim hq'
    | brk => exact False.elim hq'
    | cont => exact False.elim hq'
theorem pe_makeSD (M : Mk X.K C f) (F : FnOk X.prog X.w X.K X.mg X.base CX k f fd ps sp) (hr : Room (k + 1) X.A) (hg : Gl X x) (hm : X.mg x = some (.ref C)) (hb : Binds X.K fd ps []) (hx : ∀ σ, PassesAt CX X σ (E σ)) (ha : PA X (e :: es) t)
    (hdb : (x == ("__debug__" : Str)) = false) (he : starEach (e :: es) X.env = (false, eval e X.env) :: starEach es X.env) (hpl : (backTo pos (starEach es X.env)).any (·.1) = false) : PE X (.Call (.Name x p) (e :: es) [] pos) (tMakeSD C sp E t) := by
  refine ⟨fun pins s σ H Q I h => wpAny_Call_Name_kw (ld_glob I hg hm ?_ hdb)⟩
  exact PySem.W.callWith_K (h₀ := X.base) I.ok.mod.kin M.kp (thn (ha.run pos pins s σ H _ I h) fun us s1 ⟨vs, H1, I1, r, q⟩ => ⟨I1.kIn, run_makeSD M F hr hb (hx σ) (fun pins H s e s' I c => hx σ pins H s e s' I c) I1 r q⟩) he hpl
theorem pe_makeSD0 (M : Mk X.K C f) (F : FnOk X.prog X.w X.K X.mg X.base CX k f fd ps sp) (hr : Room (k + 1) X.A) (hg : Gl X x) (hm : X.mg x = some (.ref C)) (hb : Binds X.K fd ps []) (hx : ∀ σ, PassesAt CX X σ (E σ))
    (hdb : (x == ("__debug__" : Str)) = false) : PE X (.Call (.Name x p) [] [] pos) (tMakeSD C sp E tNil) := by
  refine ⟨fun pins s σ H Q I h => wpAny_Call_Name_kw (ld_glob I hg hm ?_ hdb)⟩
  exact PySem.W.callWith_K0 I.kIn M.kp (run_makeSD (us := []) M F hr hb (hx σ) (fun pins H s e s' I c => hx σ pins H s e s' I c) I .nil h)
end
def fMake (c : Str) (n : Nat) (g : List U → Sto → R U) (fa : FA) : FE := fun d S => (fa d S).bind fun us S1 => guard (us.length + 1 == n) ((g (.loc S1.length :: us) (S1 ++ [.ins c []])).bind fun u S2 => match u with
  | .non => .ok (.loc S1.length) S2
  | _ => .bad)
section
variable {k n : Nat} {f C : Addr} {fd : FuncData} {ps : List Str} {x : Str} {p pos : Pos} {e : Expr} {es : List Expr} {fa : FA} {g : List U → Sto → R U}
theorem make_core {ta : TA} (hm : X.mg x = some (.ref C))
    (ha : ∀ (w : Wd) (d : En) (σ : L2.St) (Q : List V → Hp → Prop), SR (KMof X) w → ER (KMof X) w d σ → Pst (fa d w.S) (OkA X w Q) (XPost X Wx σ w) → ta σ w.H Q)
    (w : Wd) (d : En) (σ : L2.St) (Q : VK) (s : SR (KMof X) w) (e : ER (KMof X) w d σ) (h : Pst (fMake x n g fa d w.S) (OkE X w Q) (XPost X Wx σ w)) :
    tMakeSD C (spOf (KMof X) n g) (fun σ c d H => Wx c d σ H) ta σ w.H Q := by
  refine ha w d σ _ s e ((Pst.of_bind h).mono (fun us S1 h1 w1 vs eS st s1 rs => ?_) fun _ _ q => q)
  subst eS
  obtain ⟨hl, h1⟩ := guard_post h1
  intro a dx na nd hda
  have st1 := Stp.new s1 (o := .own a) nd
  have s2 : SR (KMof X) (w1.new dx (.own a)) := s1.new nd
  have na2 : (w1.new dx (.own a)).H a = none := by show upd w1.H dx _ a = none; rw [upd_ne (Ne.symm hda)]; exact na
  have st2 := Stp.push s2 (o := .ins C dx []) (b := .ins x []) na2
  have s3 : SR (KMof X) ((w1.new dx (.own a)).push a (.ins C dx []) (.ins x [])) := s2.push na2 ⟨C, dx, [], hm, upd_same, .nil⟩
  have hloc : ((w1.new dx (.own a)).push a (.ins C dx []) (.ins x [])).m[w1.S.length]? = some a := by
    show (w1.m ++ [a])[w1.S.length]? = some a
    rw [← s1.len]
    simp
  refine ⟨(w1.new dx (.own a)).push a (.ins C dx []) (.ins x []), .loc w1.S.length :: us, rfl, s3, .cons (.loc hloc) ((rs.ext st1.x s1).ext st2.x s2), eq_of_beq hl, ?_⟩
  refine (Pst.of_bind h1).mono (fun u S2 h2 w3 v e3 st3 s3' rv => ?_) fun y S2 q w3 cls dd e3 st3 s3' xr => q w3 cls dd e3 (((st.trans st1).trans st2).trans st3) s3' xr
  cases rv with
  | non => exact ⟨rfl, h2 w3 (.ref a) e3 (((st.trans st1).trans st2).trans st3) s3' (.loc (st3.x.at hloc))⟩
  | _ => exact h2.elim
theorem se_make (F : FnOk X.prog X.w X.K X.mg X.base (L2.CX X.prog X.w) k f fd ps (spOf (KMof X) n g)) (hr : Room (k + 1) X.A) (hx : PasX X Wx) (hg : Gl X x) (hm : X.mg x = some (.ref C)) (M : Mk X.K C f) (hb : Binds X.K fd ps []) (ha : SimA X Wx (e :: es) fa)
    (hdb : (x == ("__debug__" : Str)) = false := by decide) (he : starEach (e :: es) X.env = (false, eval e X.env) :: starEach es X.env := by rfl) (hpl : (backTo pos (starEach es X.env)).any (·.1) = false := by rfl) : SimE X Wx (.Call (.Name x p) (e :: es) [] pos) (fMake x n g fa) := by
  obtain ⟨ta, pa, ha⟩ := ha.out
  exact SimE.mk (pe_makeSD M F hr hg hm hb hx pa hdb he hpl) (fun w d σ Q s e h => make_core hm ha w d σ Q s e h)
theorem se_make0 (F : FnOk X.prog X.w X.K X.mg X.base (L2.CX X.prog X.w) k f fd ps (spOf (KMof X) n g)) (hr : Room (k + 1) X.A) (hx : PasX X Wx) (hg : Gl X x) (hm : X.mg x = some (.ref C)) (M : Mk X.K C f) (hb : Binds X.K fd ps [])
    (hdb : (x == ("__debug__" : Str)) = false := by decide) : SimE X Wx (.Call (.Name x p) [] [] pos) (fMake x n g aNil) :=
  SimE.mk (pe_makeSD0 M F hr hg hm hb hx hdb) (fun w d σ Q s e h => make_core (fa := aNil) hm (fun w d σ Q s e h => h w [] rfl (Stp.refl w) s .nil) w d σ Q s e h)
end
end
/-! ### what the written part tells of a class -/
def clsM (s : Stmt) (j : Nat) : Stmt := match s with
  | .ClassDef _ _ _ body _ _ _ _ _ _ _ => body.getD j (.Pass ⟨0, 0, 0, 0⟩)
  | s => s
def clB (K : PySem.W.Frag) (C : Addr) : Bool := PySem.W.plainGet K C Str.empty && (PySem.W.hasDictIn K C && (PySem.W.plainOver K C && (decide (PySem.W.findIn K (.ref C) "__setattr__" = some (some (.builtin "object.__setattr__"))) && (PySem.W.makesIn K C && PySem.W.keepIn K (.ref C)))))
theorem cl_mk {K : PySem.W.Frag} {C : Addr} (h : clB K C = true) : Cls K C ∧ PySem.W.makesIn K C = true ∧ PySem.W.keepIn K (.ref C) = true := by
  unfold clB at h
  simp only [Bool.and_eq_true, decide_eq_true_eq] at h
  exact ⟨⟨h.1, h.2.1, h.2.2.1, h.2.2.2.1⟩, h.2.2.2.2.1, h.2.2.2.2.2⟩
def nasB (K : PySem.W.Frag) (C : Addr) (fs : List Str) : Bool := fs.all fun f => decide (PySem.W.findIn K (.ref C) f = some none)
theorem nas_mk {K : PySem.W.Frag} {C : Addr} {fs : List Str} {f : Str} (h : nasB K C fs = true) (hf : f ∈ fs) : NoAttr K C f := show PySem.W.findIn K (.ref C) f = some none from of_decide_eq_true (List.all_eq_true.mp h f hf)
end DL

set_option Elab.async false
set_option linter.all false
set_option maxRecDepth 100000
set_option maxHeartbeats 1000000
namespace DL
open PySem PySem.Calls PySem.W PySem.SeqAt PyProof.Rows
/-! ### sorting alike tuples, bare ones too -/
def SrtOk (ds : List PyData) : Prop := (∀ d, d ∈ ds → ∃ xs, d = .tuple xs) ∨ ∀ d, d ∈ ds → d ≠ .none ∧ ∀ xs, d ≠ .tuple xs
section
variable {prog : Program} {w : World} {A : Around} {E : Value → Shared → Prop} {s : Shared}
theorem call_tup_lt {Q : Value → Shared → Prop} {l b : Addr} {items items2 : Array Value} {e r : Nat → Bool} (hl : s.heap.IsTuple l items) (hb : s.heap.IsTuple b items2)
    (he : ∀ j (h1 : j < items.size) (h2 : j < items2.size), EqAt A.in1 s items[j] items2[j] (e j)) (hr : ∀ j (h1 : j < items.size) (h2 : j < items2.size), e j = false → RcLt A.in1 s items[j] items2[j] (r j))
    (h : Q (.bool (firstLt e r (decide (items.size < items2.size)) (List.range (min items.size items2.size)))) s) : wpAny (model prog w) A (call (.builtin "tuple.__lt__") [.ref l, .ref b]) Q E s := by
  obtain ⟨⟨cls, dd, data, sl⟩, ho, hc, n, hd⟩ := id hl
  obtain ⟨⟨cls2, dd2, data2, sl2⟩, ho2, hc2, n2, hd2⟩ := id hb
  simp only at hc hd hc2 hd2
  subst hc hd hc2 hd2
  exact call_meets F.slot_tuple_lt ⟨_, ho, rfl⟩ F.entry_tuple_lt (F.args_tuple_lt_2 _ _) (tuple_ltAt l b items items2 n n2 dd dd2 sl sl2 e r) ⟨ho, ho2, he, hr, h⟩
theorem tup_own {xs ys : List PyData} {a b : Value} {as bs : List Addr} {Q : Bool → Shared → Prop} (ra : Reads s.heap a (.tuple xs) as) (rb : Reads s.heap b (.tuple ys) bs) (hal : alikeAll xs ys = true)
    (hu : A.units + min (PyData.tuple xs).depth (PyData.tuple ys).depth < cLine) (hq : Q (dataLt (.tuple xs) (.tuple ys)) s) : wpAny (model prog w) A (oneLt' true a b) Q E s := by
  cases ra with
  | @tuple l o vs n _ as₁ h1 h2 h3 h4 =>
    cases rb with
    | @tuple l' o' vs' n' _ bs₁ k1 k2 k3 k4 =>
      have n1 : vs.size = xs.length := by simpa using ReadsAll.length _ _ _ h4
      have n2 : vs'.size = ys.length := by simpa using ReadsAll.length _ _ _ k4
      rw [dataLt_tuple, ← firstLt_toks xs ys hal, ← n1, ← n2] at hq
      rw [oneLt'_eq]
      simp only [if_true]
      refine wpAny_bind (wpAny_cRoomFor (room_here hu) ?_)
      refine wpAny_bind (wpAny_callSpecialIfBound?_slot (T := "tuple") ⟨_, h1, h2⟩ F.slot_tuple_lt (call_tup_lt (e := pairEq xs ys) (r := fun j => dataLt (xs.getD j .none) (ys.getD j .none)) ⟨_, h1, h2, _, h3⟩ ⟨_, k1, k2, _, k3⟩ (fun j j1 j2 => ?_) (fun j j1 j2 hj => ?_) ?_))
      · have := eqAt_alikeAll xs ys A.in1 s vs.toList vs'.toList _ _ h4 k4 hal (room_in hu) j (by simpa using j1) (by simpa using j2)
        simpa using this
      · have := rcLt_alikeAll xs ys A.in1 s vs.toList vs'.toList _ _ h4 k4 hal (room_in hu) j (by simpa using j1) (by simpa using j2) hj
        simpa using this
      · exact wpAny_truthy_bool hq
theorem keyLt_gen (x y : Value) : keyLt' general' x y = oneLt' false x y := rfl
/-- the first items of tuples -/
theorem firsts_of : ∀ {vs : List Value} {ds : List PyData} {Q : List (Option Value) → Shared → Prop}, EachIs (fun v d => ∃ as, Reads s.heap v d as) vs ds → (∀ d ∈ ds, ∃ xs, d = .tuple xs) →
    (∀ fs : List (Option Value), fs.map Option.isSome = ds.map (fun d => match d with | .tuple (_ :: _) => true | _ => false) → Q fs s) → wpAny (model prog w) A (vs.mapM firstOfTuple') Q E s
  | _, _, Q, .nil, _, h => by rw [List.mapM_nil]; exact wpAny_pure (h [] rfl)
  | _, _, Q, .cons (a := v) (b := d) (as := vs) (bs := ds) ⟨as, r⟩ t, ht, h => by
    obtain ⟨xs, rfl⟩ := ht d List.mem_cons_self
    rw [List.mapM_cons]
    cases r with
    | @tuple a o its n _ _ ho hc hd hr =>
      have hl : its.size = xs.length := by simpa using ReadsAll.length _ _ _ hr
      refine wpAny_bind ?_
      rw [kas_first_eq]
      refine wpAny_bind (Looks.here (show Looks (model prog w) s.heap (typeOf (.ref a)) o.cls from (Looks.ld ho).andThen .now) ?_)
      rw [hc, if_neg (by first | decide | simp)]
      refine wpAny_bind (listItems_at ho hd (wpAny_pure ?_))
      refine wpAny_bind (firsts_of (Q := fun bs s' => wpAny (model prog w) A (pure (its[0]? :: bs)) Q E s') t (fun d hd => ht d (List.mem_cons_of_mem _ hd)) fun fs hf => wpAny_pure (h _ ?_))
      rw [List.map_cons, List.map_cons, hf]
      congr 1
      cases xs with
      | nil =>
        have : its[0]? = none := by rw [Array.getElem?_eq_none_iff, hl]; exact Nat.le_refl _
        rw [this]; rfl
      | cons x r =>
        have : 0 < its.size := by rw [hl]; simp
        rw [Array.getElem?_eq_getElem this]; rfl
/-- alike values can be sorted -/
theorem sorts_alike {vs : List Value} {ds : List PyData} (e : EachIs (fun v d => ∃ as, Reads s.heap v d as) vs ds) (hal : AllAlike ds) (hk : SrtOk ds) (hu : ∀ d, d ∈ ds → A.units + d.depth < cLine) : SortsAt prog w A s (dataKind s.heap ds) vs := by
  rcases hk with ht | hn
  · by_cases hf : ∀ d, d ∈ ds → ∃ x r, d = .tuple (x :: r)
    · exact SortsAt.data e hal (.inl hf) hu
    · obtain ⟨d0, hd0, hne⟩ : ∃ d0, d0 ∈ ds ∧ d0 = .tuple [] := Classical.byContradiction fun z => hf fun d hd => by
        obtain ⟨xs, rfl⟩ := ht d hd
        cases xs with
        | nil => exact absurd ⟨_, hd, rfl⟩ z
        | cons x r => exact ⟨x, r, rfl⟩
      have room : ∀ {d d' : PyData}, d ∈ ds → A.units + min d.depth d'.depth < cLine := fun {d d'} hd => Nat.lt_of_le_of_lt (Nat.add_le_add_left (Nat.min_le_left _ _) _) (hu d hd)
      refine ⟨fun v hv => ?_, ?_⟩
      · obtain ⟨d, hd, as, r⟩ := e.left v hv
        exact ⟨_, dataKind_some hal hd r⟩
      · cases ds with
        | nil => cases hd0
        | cons d1 ds1 =>
          have notAll : ∀ fs : List (Option Value), fs.map Option.isSome = (d1 :: ds1).map (fun d => match d with | .tuple (_ :: _) => true | _ => false) → ¬ (fs.toArray.all fun x => x.isSome) = true := fun fs hfs z => by
            have z2 : ∀ b ∈ fs.map Option.isSome, b = true := by
              intro b hb
              obtain ⟨x, hx, rfl⟩ := List.mem_map.mp hb
              rw [List.all_toArray, List.all_eq_true] at z
              exact z x hx
            rw [hfs] at z2
            have := z2 _ (List.mem_map.mpr ⟨d0, hd0, rfl⟩)
            rw [hne] at this
            cases this
          obtain ⟨x1, e1⟩ := ht d1 List.mem_cons_self
          by_cases h1 : ∃ y r, x1 = y :: r
          · obtain ⟨y, r, rfl⟩ := h1
            refine ⟨general', ?_, fun h2 E Q hq => ?_⟩
            · intro E x y a b Q ha hb hq
              obtain ⟨d, as, hd, ra, rfl⟩ := dataKind_inv ha
              obtain ⟨d', as', hd', rb, rfl⟩ := dataKind_inv hb
              rw [keyLt_gen]
              exact oneLt_alike (fun z => nomatch z) ra rb (hal d hd d' hd') (by obtain ⟨t, rfl⟩ := ht d hd; intro z; cases z) (room hd) hq
            · rw [kat_kind_eq, List.mapM_toArray, map_eq_pure_bind]
              refine wpAny_bind (wpAny_bind (firsts_of e ht fun fs hfs => wpAny_pure ?_))
              rw [if_neg (notAll fs hfs)]
              have : ((fs.toArray)[0]?.bind id).isSome = true := by
                cases fs with
                | nil => cases hfs
                | cons f fr =>
                  rw [List.map_cons, List.map_cons, e1] at hfs
                  have := (List.cons.inj hfs).1
                  simpa using this
              rw [if_pos this]
              exact wpAny_pure hq
          · refine ⟨oneType', ?_, fun h2 E Q hq => ?_⟩
            · intro E x y a b Q ha hb hq
              obtain ⟨d, as, hd, ra, rfl⟩ := dataKind_inv ha
              obtain ⟨d', as', hd', rb, rfl⟩ := dataKind_inv hb
              obtain ⟨t, rfl⟩ := ht d hd
              obtain ⟨t', rfl⟩ := ht d' hd'
              rw [keyLt'_oneType]
              exact tup_own ra rb (by simpa [alike] using hal _ hd _ hd') (room hd) hq
            · have hx : x1 = [] := by
                cases x1 with
                | nil => rfl
                | cons y r => exact absurd ⟨y, r, rfl⟩ h1
              have hT : ∀ v ∈ vs, Looks (model prog w) s.heap (typeOf v) (.type "tuple") := fun v hv => by
                obtain ⟨d, hd, as, r⟩ := e.left v hv
                obtain ⟨t, rfl⟩ := ht d hd
                exact looks_reads r
              obtain ⟨v1, vr, rfl⟩ : ∃ v1 vr, vs = v1 :: vr := by
                cases vs with
                | nil => simp at h2
                | cons v1 vr => exact ⟨v1, vr, rfl⟩
              rw [kat_kind_eq, List.mapM_toArray, map_eq_pure_bind]
              refine wpAny_bind (wpAny_bind (firsts_of e ht fun fs hfs => wpAny_pure ?_))
              rw [if_neg (notAll fs hfs)]
              have : ¬ ((fs.toArray)[0]?.bind id).isSome = true := by
                cases fs with
                | nil => cases hfs
                | cons f fr =>
                  rw [List.map_cons, List.map_cons, e1, hx] at hfs
                  have := (List.cons.inj hfs).1
                  simpa using this
              rw [if_neg this, oneTypeOnly'_eq, List.mapM_toArray, map_eq_pure_bind]
              refine wpAny_bind (wpAny_bind (wpAny_bind (kas_mapM (r := Value.type "tuple") _ (fun v hv Q' hq => (hT v hv).here hq) (wpAny_pure ?_))))
              have hall : ((List.map (fun _ => Value.type "tuple") (v1 :: vr)).toArray.all fun x => x == Value.type "tuple") = true := by
                simp only [List.all_toArray, List.all_map, List.all_eq_true]
                intro _ _
                exact beq_self_eq_true _
              have h0 : (List.map (fun _ => Value.type "tuple") (v1 :: vr)).toArray[0]? = some (Value.type "tuple") := by simp
              rw [h0]
              simp only [hall, if_true]
              exact wpAny_pure (wpAny_pure hq)
  · exact SortsAt.data e hal (.inr hn) hu
end
end DL

set_option Elab.async false
set_option linter.all false
set_option maxRecDepth 100000
namespace DL
open PySem PySem.Spec L2
/-! ### sorted of data that are alike -/
def dOf (u : U) : PyData := (toD u).getD .none
def leD (a b : U) : Bool := !PySem.W.dataLt (dOf b) (dOf a)
def sortD (us : List U) : List U := us.mergeSort leD
def fullT : PyData → Bool
  | .tuple _ => true
  | _ => false
def noTup : PyData → Bool
  | .none => false
  | .tuple _ => false
  | _ => true
def sortOk (ds : List PyData) : Bool := (ds.all fun d => ds.all fun e => PySem.W.alike d e) && ((ds.all fullT || ds.all noTup) && ds.all fun d => decide (d.depth ≤ 60))
theorem sortOk_ok {ds : List PyData} (h : sortOk ds = true) : PySem.W.AllAlike ds ∧ SrtOk ds ∧ ∀ d ∈ ds, d.depth ≤ 60 := by
  unfold sortOk at h
  rw [Bool.and_eq_true, Bool.and_eq_true, Bool.or_eq_true] at h
  obtain ⟨h1, h2, h3⟩ := h
  refine ⟨fun d hd e he => List.all_eq_true.mp (List.all_eq_true.mp h1 d hd) e he, ?_, fun d hd => of_decide_eq_true (List.all_eq_true.mp h3 d hd)⟩
  rcases h2 with h2 | h2
  · refine .inl fun d hd => ?_
    have := List.all_eq_true.mp h2 d hd
    cases d with
    | tuple xs => exact ⟨xs, rfl⟩
    | _ => cases this
  · refine .inr fun d hd => ?_
    have := List.all_eq_true.mp h2 d hd
    cases d with
    | none => cases this
    | tuple xs => cases this
    | _ => exact ⟨(by intro z; cases z), (by intro xs z; cases z)⟩
section
variable {X : Cx} {Wx : WX}
def rSortD (X : Cx) : List V → Hp → VK → Prop := fun xs H Q => ∃ (a : Addr) (bs : List (V × PyData)), xs = [.ref a] ∧ SqL X.K H a (bs.map (·.1)) ∧ (∀ b ∈ bs, Dp X.K H b.1 b.2) ∧ PySem.W.AllAlike (bs.map (·.2)) ∧ SrtOk (bs.map (·.2)) ∧ (∀ d ∈ bs.map (·.2), d.depth ≤ 60) ∧
  ∀ p, H p = none → Q (.ref p) (upd H p (.lst ((bs.mergeSort (PySem.W.sortLe (PyProof.Rows.listOrd PyProof.Rows.itemOrd) false fun b => PySem.W.keyToks b.2)).map (·.1))))
theorem each_of {bs : List (V × PyData)} {its : List Value} {R : Value → V × PyData → Prop} (h : ∀ b ∈ bs, ∀ u, RelV b.1 u → R u b) : Vals (bs.map (·.1)) its → PySem.W.EachIs R its bs := by
  intro r
  induction bs generalizing its with
  | nil => cases r; exact .nil
  | cons b bs ih =>
    rw [List.map_cons] at r
    cases r with
    | cons r1 r2 => exact .cons (h b List.mem_cons_self _ r1) (ih (fun c hc => h c (List.mem_cons_of_mem _ hc)) r2)
theorem each_vals {bs : List (V × PyData)} {its : List Value} (h : PySem.W.EachIs (fun u (b : V × PyData) => RelV b.1 u) its bs) : Vals (bs.map (·.1)) its := by
  induction h with
  | nil => exact .nil
  | cons h1 _ ih => exact .cons h1 ih
theorem cr_sortD (hu : X.A.units + 64 < cLine) : CallR X (.builtin "sorted") (rSortD X) := by
  intro pins s σ H xs us Q I r h
  obtain ⟨a, bs, rfl, hq, hd, al, so, dp, q⟩ := h
  rw [Vals.ref1 r]
  obtain ⟨its, rv, hil, hz⟩ := I.list hq
  have hL : its.length ≤ sizeLine := by rw [← rv.length]; exact hz
  have e1 : PySem.W.EachIs (fun u (b : V × PyData) => RelV b.1 u ∧ ∃ as, Reads s.heap u b.2 as) its bs := each_of (fun b hb u ru => ⟨ru, Dp.reads I b.2 b.1 u (hd b hb) ru⟩) rv
  have keep := fun b o e => PySem.W.sorting_copy_old (h := s.heap) (vs := its) (b := b) (o := o) e
  have e2 : PySem.W.EachIs (fun u d => ∃ as, Reads (PySem.W.sortingHeap (PySem.W.copyHeap s.heap its) (s.heap.objs.size + 1) its) u d as) its (bs.map (·.2)) := by
    have go : ∀ {l : List Value} {m : List (V × PyData)}, PySem.W.EachIs (fun u (b : V × PyData) => RelV b.1 u ∧ ∃ as, Reads s.heap u b.2 as) l m → PySem.W.EachIs (fun u d => ∃ as, Reads (PySem.W.sortingHeap (PySem.W.copyHeap s.heap its) (s.heap.objs.size + 1) its) u d as) l (m.map (·.2)) := by
      intro l m h
      induction h with
      | nil => exact .nil
      | cons h1 _ ih => obtain ⟨_, as, ra⟩ := h1; exact .cons ⟨as, PyProof.Rows.Reads.keeps keep ra⟩ ih
    exact go e1
  have S := sorts_alike (prog := X.prog) (w := X.w) (A := X.A.in1.in1) (s := { s with heap := PySem.W.sortingHeap (PySem.W.copyHeap s.heap its) (s.heap.objs.size + 1) its }) e2 al so (fun d hm => by
    have := dp d hm
    show X.A.units + 1 + 1 + d.depth < cLine
    omega)
  refine PySem.W.sorted_vals hil.isList S hL ?_
  have key : PySem.W.EachIs (fun v (b : V × PyData) => (PySem.W.dataKind (PySem.W.sortingHeap (PySem.W.copyHeap s.heap its) (s.heap.objs.size + 1) its) (bs.map (·.2))).keyOf v = some (PySem.W.keyToks b.2)) its bs := by
    have go : ∀ {l : List Value} {m : List (V × PyData)}, (∀ b ∈ m, b ∈ bs) → PySem.W.EachIs (fun u (b : V × PyData) => RelV b.1 u ∧ ∃ as, Reads s.heap u b.2 as) l m → PySem.W.EachIs (fun v (b : V × PyData) => (PySem.W.dataKind (PySem.W.sortingHeap (PySem.W.copyHeap s.heap its) (s.heap.objs.size + 1) its) (bs.map (·.2))).keyOf v = some (PySem.W.keyToks b.2)) l m := by
      intro l m hm h
      induction h with
      | nil => exact .nil
      | @cons u b l m h1 _ ih =>
        obtain ⟨_, as, ra⟩ := h1
        exact .cons (PySem.W.dataKind_some al (List.mem_map.mpr ⟨b, hm b List.mem_cons_self, rfl⟩) (PyProof.Rows.Reads.keeps keep ra)) (ih fun c hc => hm c (List.mem_cons_of_mem _ hc))
    exact go (fun _ h => h) e1
  have out := PySem.W.sortVals_each (κ := PySem.W.dataKind (PySem.W.sortingHeap (PySem.W.copyHeap s.heap its) (s.heap.objs.size + 1) its) (bs.map (·.2))) (rev := false) (fun b : V × PyData => PySem.W.keyToks b.2) (e1.mono fun u b h => h.1) key
  have rvs := each_vals out
  obtain ⟨n, hn⟩ := PyProof.Rows.sortedAll_at s.heap its (PySem.W.sortVals (PySem.W.dataKind (PySem.W.sortingHeap (PySem.W.copyHeap s.heap its) (s.heap.objs.size + 1) its) (bs.map (·.2))) false its its).toArray
  have fr : H (s.heap.objs.size + 1) = none := I.hok.fresh (Nat.le_succ _)
  refine ⟨.ref (s.heap.objs.size + 1), _, I.laid (t' := s.toks) (fun b o e => PyProof.Rows.sortedAll_old e) (Nat.le_succ _) (show ObjOk X.prog X.w _ _ _ (.lst _) from ⟨?_, _, n, rvs, hn⟩), rfl, q _ fr⟩
  rw [rvs.length, PySem.W.sortVals_length _ rfl]
  exact hL
def sortedDC (us : List U) (S : Sto) : R (List U) := match us with
  | [u] => match DL.listOf u S with
    | some xs => match toDs xs with
      | some ds => guard (sortOk ds) (.ok (sortD xs) S)
      | none => .bad
    | none => .bad
  | _ => .bad
/-- items with their data -/
theorem trip {w : Wd} : ∀ {us : List U} {xs : List V} {ds : List PyData}, VRs (KMof X) w us xs → toDs us = some ds → ∃ ts : List (U × V × PyData), ts.map (·.1) = us ∧ ts.map (·.2.1) = xs ∧ ts.map (·.2.2) = ds ∧ ∀ t ∈ ts, VR (KMof X) w t.1 t.2.1 ∧ toD t.1 = some t.2.2
  | _, _, _, .nil, h => by cases h; exact ⟨[], rfl, rfl, rfl, fun t ht => by cases ht⟩
  | _, _, _, .cons (u := u) (us := us) r rs, h => by
    unfold toDs at h
    split at h
    · rename_i d ds e1 e2
      cases h
      obtain ⟨ts, h1, h2, h3, h4⟩ := trip rs e2
      refine ⟨(u, _, d) :: ts, by rw [List.map_cons, h1], by rw [List.map_cons, h2], by rw [List.map_cons, h3], fun t ht => ?_⟩
      rcases List.mem_cons.mp ht with rfl | ht
      · exact ⟨r, e1⟩
      · exact h4 t ht
    · cases h
theorem vrs_of {w : Wd} : ∀ {ts : List (U × V × PyData)}, (∀ t ∈ ts, VR (KMof X) w t.1 t.2.1) → VRs (KMof X) w (ts.map (·.1)) (ts.map (·.2.1))
  | [], _ => .nil
  | t :: ts, h => .cons (h t List.mem_cons_self) (vrs_of fun u hu => h u (List.mem_cons_of_mem _ hu))
theorem cl_sortD (hu : X.A.units + 64 < cLine) : CallSimL X (.builtin "sorted") sortedDC := by
  refine ⟨_, cr_sortD hu, fun w us vs Q E s rs h => ?_⟩
  unfold sortedDC at h
  split at h
  · rename_i u
    cases rs with
    | cons r rs =>
      cases rs
      split at h
      · rename_i xs hl
        split at h
        · rename_i ds hd
          obtain ⟨hs, h⟩ := guard_post h
          obtain ⟨al, so, dp⟩ := sortOk_ok hs
          obtain ⟨a, ys, rfl, q, rx⟩ := listOf_ok s r hl
          obtain ⟨ts, h1, h2, h3, h4⟩ := trip rx hd
          have e3 : (ts.map (·.2)).map (·.2) = ds := by rw [List.map_map]; exact h3
          refine ⟨a, ts.map (·.2), rfl, by rw [List.map_map]; exact h2 ▸ q, fun b hb => ?_, by rw [e3]; exact al, by rw [e3]; exact so, by rw [e3]; exact dp, fun p hp => ?_⟩
          · obtain ⟨t, ht, rfl⟩ := List.mem_map.mp hb
            exact toD_ok (h4 t ht).1 (h4 t ht).2
          · have kU : ∀ t ∈ ts, PySem.W.keyToks (dOf t.1) = PySem.W.keyToks t.2.2 := fun t ht => by
              unfold dOf
              rw [(h4 t ht).2]
              rfl
            have m1 : (ts.mergeSort fun a b => leD a.1 b.1).map (·.1) = sortD xs := by
              have z := PySem.W.sort_maps (fun t : U × V × PyData => t.1) (r := fun a b => leD a.1 b.1) (s := leD) (l := ts) fun a _ b _ => rfl
              rw [h1] at z
              exact z
            have m2 : (ts.mergeSort fun a b => leD a.1 b.1).map (·.2) = (ts.map (·.2)).mergeSort (PySem.W.sortLe (PyProof.Rows.listOrd PyProof.Rows.itemOrd) false fun b => PySem.W.keyToks b.2) := by
              refine PySem.W.sort_maps (fun t : U × V × PyData => t.2) fun a ha b hb => ?_
              show (!PyProof.Rows.lexLt PyProof.Rows.itemOrd (PySem.W.keyToks (dOf b.1)) (PySem.W.keyToks (dOf a.1))) = (!PyProof.Rows.lexLt PyProof.Rows.itemOrd (PySem.W.keyToks b.2.2) (PySem.W.keyToks a.2.2))
              rw [kU a ha, kU b hb]
            have v := vrs_of (X := X) (w := w) (ts := ts.mergeSort fun a b => leD a.1 b.1) fun t ht => (h4 t ((List.mergeSort_perm _ _).mem_iff.mp ht)).1
            rw [m1] at v
            rw [← m2, List.map_map]
            exact h w p _ rfl (Stp.refl w) s v hp
        · exact h.elim
      · exact h.elim
  · exact h.elim
end
end DL

set_option Elab.async false
set_option linter.all false
set_option maxRecDepth 100000
namespace DL
open PySem PySem.Spec PyProof.Rows L2
/-! ### tables of sets: masks up to 2047 -/
def Mk (m : Nat) : Prop := m = 7 ∨ m = 31 ∨ m = 127 ∨ m = 511 ∨ m = 2047
/-- the places met in n steps from x, as bits -/
def metF (m : Nat) : Nat → Nat → Nat → Nat
  | 0, _, acc => acc
  | n + 1, x, acc => metF m n ((x * 5 + 1) % (m + 1)) (acc ||| 2 ^ x)
theorem lcgI_add (m : Nat) : ∀ (k a i : Nat), lcgI m i (a + k) = lcgI m (lcgI m i a) k
  | 0, a, i => rfl
  | k + 1, a, i => by
    show (lcgI m i (a + k) * 5 + 1) % (m + 1) = (lcgI m (lcgI m i a) k * 5 + 1) % (m + 1)
    rw [lcgI_add m k a i]
theorem metF_bit (m j : Nat) : ∀ (n x acc : Nat), (metF m n x acc).testBit j = true → acc.testBit j = true ∨ ∃ k, k < n ∧ lcgI m x k = j
  | 0, x, acc, h => .inl h
  | n + 1, x, acc, h => by
    rcases metF_bit m j n _ _ h with q | ⟨k, hk, e⟩
    · rw [Nat.testBit_or, Bool.or_eq_true] at q
      rcases q with q | q
      · exact .inl q
      · rw [Nat.testBit_two_pow] at q
        exact .inr ⟨0, Nat.succ_pos _, of_decide_eq_true q⟩
    · refine .inr ⟨k + 1, Nat.succ_lt_succ hk, ?_⟩
      rw [Nat.add_comm k 1, lcgI_add]
      exact e
def cycOk (m : Nat) : Bool := metF m (m + 1) 0 0 == 2 ^ (m + 1) - 1 && lcgI m 0 (m + 1) == 0
theorem cyc7 : cycOk 7 = true := by decide +kernel
theorem cyc31 : cycOk 31 = true := by decide +kernel
theorem cyc127 : cycOk 127 = true := by decide +kernel
theorem cyc511 : cycOk 511 = true := by decide +kernel
theorem cyc2047 : cycOk 2047 = true := by decide +kernel
theorem Mk.cyc {m : Nat} (h : Mk m) : cycOk m = true := by
  rcases h with rfl | rfl | rfl | rfl | rfl
  · exact cyc7
  · exact cyc31
  · exact cyc127
  · exact cyc511
  · exact cyc2047
theorem Mk.odd {m : Nat} (h : Mk m) : m % 2 = 1 := by rcases h with e | e | e | e | e <;> subst e <;> rfl
theorem Mk.le {m : Nat} (h : Mk m) : m ≤ 2047 := by rcases h with e | e | e | e | e <;> omega
theorem Mk.from0 {m j : Nat} (h : Mk m) (hj : j ≤ m) : ∃ k, k ≤ m ∧ lcgI m 0 k = j := by
  have c := h.cyc
  unfold cycOk at c
  rw [Bool.and_eq_true, beq_iff_eq, beq_iff_eq] at c
  have b : (metF m (m + 1) 0 0).testBit j = true := by
    rw [c.1, Nat.testBit_two_pow_sub_one]
    exact decide_eq_true (by omega)
  rcases metF_bit m j _ _ _ b with q | ⟨k, hk, e⟩
  · simp at q
  · exact ⟨k, by omega, e⟩
theorem Mk.all {m i j : Nat} (h : Mk m) (hi : i ≤ m) (hj : j ≤ m) : ∃ k, k ≤ m ∧ lcgI m i k = j := by
  have c := h.cyc
  unfold cycOk at c
  rw [Bool.and_eq_true, beq_iff_eq, beq_iff_eq] at c
  obtain ⟨a, ha, ea⟩ := h.from0 hi
  obtain ⟨b, hb, eb⟩ := h.from0 hj
  rcases Nat.lt_or_ge b a with q | q
  · refine ⟨m + 1 - a + b, by omega, ?_⟩
    rw [← ea, ← lcgI_add, show a + (m + 1 - a + b) = (m + 1) + b by omega, lcgI_add, c.2, eb]
  · refine ⟨b - a, by omega, ?_⟩
    rw [← ea, ← lcgI_add, show a + (b - a) = b by omega, eb]
/-- each slot begins a run -/
theorem Mk.run {m : Nat} (hm : Mk m) (h : Int) {j : Nat} (hj : j ≤ m) : ∃ n, n ≤ m + 12 ∧ runI m (SetTable.bits h) n = j := by
  obtain ⟨k, hk, e⟩ := hm.all (runI_le m (SetTable.bits h) 12) hj
  exact ⟨12 + k, by omega, (runI_tail (bits_lt h) k).trans e⟩
theorem Mk.meets {m : Nat} (hm : Mk m) (h : Int) {j : Nat} (hj : j ≤ m) : ∃ k, k < 10 * SetTable.turns m ∧ way m h k = j := by
  obtain ⟨n, hn, e⟩ := hm.run h hj
  obtain ⟨k, hk, e2⟩ := run_nth m (SetTable.bits h) n
  refine ⟨k, by unfold SetTable.turns; omega, ?_⟩
  show (nth m (runAt m (SetTable.bits h % (m + 1)) (SetTable.bits h)) k).j = j
  rw [e2]
  exact e
theorem wayLe (m : Nat) (h : Int) (k : Nat) : way m h k ≤ m := by
  have hi : SetTable.bits h % (m + 1) ≤ m := Nat.le_of_lt_succ (Nat.mod_lt _ (Nat.succ_pos _))
  have r := runEnd_bd hi
  have q := nth_in (m := m) k (runAt m (SetTable.bits h % (m + 1)) (SetTable.bits h)) (by
    show SetTable.bits h % (m + 1) + (SetTable.runEnd m (SetTable.bits h % (m + 1)) - SetTable.bits h % (m + 1)) ≤ m
    omega)
  have : way m h k = (nth m (runAt m (SetTable.bits h % (m + 1)) (SetTable.bits h)) k).j := rfl
  omega
/-- a table in which each is found from its hash -/
structure Tb (t : SetTable) (hs : List Int) : Prop where
  ris : Ris t.place.toList
  dm : t.dummies = #[]
  sz : t.place.toList.length = hs.length
  mok : Mk t.mask
  bd : ∀ x ∈ t.place.toList, x ≤ t.mask
  reach : ∀ (i : Nat) (h : Int) (j : Nat), hs[i]? = some h → t.place.toList[i]? = some j → ∃ k, way t.mask h k = j ∧ ∀ k', k' < k → way t.mask h k' ∈ t.place.toList
/-- the first empty slot of a way -/
theorem Tb.first {t : SetTable} {hs : List Int} (T : Tb t hs) (hl : hs.length ≤ t.mask) (h : Int) : ∃ K, K < 10 * SetTable.turns t.mask ∧ way t.mask h K ∉ t.place.toList ∧ ∀ k, k < K → way t.mask h k ∈ t.place.toList := by
  obtain ⟨j, hj, hn⟩ := st_missing t.place.toList (t.mask + 1) (by rw [T.sz]; omega)
  obtain ⟨k, hk, e⟩ := T.mok.meets h (Nat.le_of_lt_succ hj)
  obtain ⟨K, h1, h2, h3⟩ := st_least (p := fun k => way t.mask h k ∉ t.place.toList) k (by rw [e]; exact hn)
  exact ⟨K, by omega, h2, fun k' hk' => Classical.not_not.mp (h3 k' hk')⟩
theorem Tb.before {t : SetTable} {hs : List Int} (T : Tb t hs) {h : Int} {K i j : Nat} (hK : way t.mask h K ∉ t.place.toList) (hi : hs[i]? = some h) (hj : t.place.toList[i]? = some j) : ∃ k, k < K ∧ way t.mask h k = j := by
  obtain ⟨k, e, hb⟩ := T.reach i h j hi hj
  refine ⟨k, ?_, e⟩
  rcases Nat.lt_trichotomy k K with c | c | c
  · exact c
  · exact absurd (c ▸ e ▸ List.mem_of_getElem? hj) hK
  · exact absurd (hb K c) hK
/-- one put at its first empty slot -/
theorem Tb.put {t : SetTable} {hs : List Int} (T : Tb t hs) {h : Int} {K j p : Nat} (ej : way t.mask h K = j) (ep : SetTable.below t.place j = p) (hK : j ∉ t.place.toList) (hb : ∀ k, k < K → way t.mask h k ∈ t.place.toList) :
    p ≤ hs.length ∧ Tb (t.put j).1 (hs.take p ++ h :: hs.drop p) ∧ (t.put j).1.fill = hs.length + 1 := by
  have hjm : j ≤ t.mask := ej ▸ wayLe _ _ _
  obtain ⟨c1, _, _⟩ := below_cut T.ris j
  rw [ep, ← Array.length_toList] at c1
  have hph : p ≤ hs.length := by rw [← T.sz]; exact c1
  have hnp : t.place[SetTable.below t.place j]? ≠ some j := fun e => hK (List.mem_of_getElem? (by rw [Array.getElem?_toList]; exact e))
  have hpp := put_place t j
  rw [ep] at hpp
  have hln : (t.put j).1.place.toList.length = hs.length + 1 := by rw [hpp, len_ins _ c1, T.sz]
  refine ⟨hph, ⟨ris_insert T.ris hnp, put_dm T.dm j, by rw [hln, len_ins _ hph], T.mok, fun x hx => ?_, fun i h' j' h1 h2 => ?_⟩, ?_⟩
  · rw [hpp] at hx
    rcases mem_ins.1 hx with z | z
    · rw [z]; exact hjm
    · exact T.bd x z
  · have old : ∀ i0 : Nat, hs[i0]? = some h' → t.place.toList[i0]? = some j' → ∃ k, way t.mask h' k = j' ∧ ∀ k', k' < k → way t.mask h' k' ∈ (t.put j).1.place.toList := fun i0 a b => by
      obtain ⟨k, e, z⟩ := T.reach i0 h' j' a b
      exact ⟨k, e, fun k' hk' => by rw [hpp]; exact mem_ins.2 (.inr (z k' hk'))⟩
    rw [tins_get hs hph] at h1
    rw [hpp, tins_get _ c1] at h2
    show ∃ k, way t.mask h' k = j' ∧ ∀ k', k' < k → way t.mask h' k' ∈ (t.put j).1.place.toList
    by_cases q1 : i < p
    · rw [if_pos q1] at h1 h2
      exact old i h1 h2
    · rw [if_neg q1] at h1 h2
      by_cases q2 : i = p
      · rw [if_pos q2] at h1 h2
        cases h1
        cases h2
        exact ⟨K, ej, fun k' hk' => by rw [hpp]; exact mem_ins.2 (.inr (hb k' hk'))⟩
      · rw [if_neg q2] at h1 h2
        exact old _ h1 h2
  · show (t.put j).1.place.size + (t.put j).1.dummies.size = hs.length + 1
    rw [put_dm T.dm j, ← Array.length_toList, hln]
    rfl
/-! ### laid anew -/
theorem Mk.free {m : Nat} (hm : Mk m) (owner : Array (Option Nat)) (h : Int) {j : Nat} (hj : j ≤ m) (hf : oAt owner j = none) :
    ∃ K, SetTable.layClean.free m owner (SetTable.turns m) (SetTable.bits h % (m + 1)) (SetTable.bits h) = some (way m h K) ∧ oAt owner (way m h K) = none ∧ ∀ k, k < K → oAt owner (way m h k) ≠ none := by
  obtain ⟨n, hn, e⟩ := hm.run h hj
  have hw : way m h (off m (SetTable.bits h % (m + 1)) (SetTable.bits h) n) = j := by
    show (nth m (runAt m (SetTable.bits h % (m + 1)) (SetTable.bits h)) _).j = j
    rw [nth_off, itL_run]
    exact e
  obtain ⟨K, k1, k2, k3⟩ := st_least (p := fun k => oAt owner (way m h k) = none) _ (by rw [hw]; exact hf)
  refine ⟨K, free_spec m owner (SetTable.turns m) n _ _ K (by unfold SetTable.turns; omega) k1 (fun k hk => ?_) ?_, k2, k3⟩
  · cases z : oAt owner (nth m (runAt m (SetTable.bits h % (m + 1)) (SetTable.bits h)) k).j with
    | none => exact absurd z (k3 k hk)
    | some _ => rfl
  · exact Option.isNone_iff_eq_none.mpr k2
theorem own_step {m : Nat} (hm : Mk m) {done : List Int} {owner : Array (Option Nat)} (W : Own m done owner) (hl : done.length ≤ m) (h : Int) :
    ∃ j, SetTable.layClean.free m owner (SetTable.turns m) (SetTable.bits h % (m + 1)) (SetTable.bits h) = some j ∧ Own m (done ++ [h]) (owner.setIfInBounds j (some done.length)) := by
  obtain ⟨ps, hps, hin⟩ := W.ps
  obtain ⟨j0, h0, hn0⟩ := st_missing ps (m + 1) (by omega)
  have hj0 : oAt owner j0 = none := Classical.byContradiction fun z => hn0 (hin j0 (Nat.le_of_lt_succ h0) z)
  obtain ⟨K, e1, e2, e3⟩ := hm.free owner h (Nat.le_of_lt_succ h0) hj0
  have hjm := wayLe m h K
  refine ⟨way m h K, e1, ?_⟩
  have self := oAt_set_self (some done.length) (show way m h K < owner.size by rw [W.sz]; omega)
  have grow : ∀ i, oAt owner i ≠ none → oAt (owner.setIfInBounds (way m h K) (some done.length)) i ≠ none := fun i hi => by
    by_cases c : i = way m h K
    · rw [c, self]; intro z; cases z
    · rw [oAt_set_ne _ c]; exact hi
  refine ⟨by rw [Array.size_setIfInBounds]; exact W.sz, fun j k hj e => ?_, fun k hk => ?_, way m h K :: ps, by simp [hps], fun j hj e => ?_⟩
  · by_cases c : j = way m h K
    · rw [c, self] at e
      cases e
      exact ⟨h, K, by rw [List.getElem?_append_right (Nat.le_refl _), Nat.sub_self]; rfl, c.symm, fun k' hk' => grow _ (e3 k' hk')⟩
    · rw [oAt_set_ne _ c] at e
      obtain ⟨h', K', a1, a2, a3⟩ := W.at_ j k hj e
      exact ⟨h', K', by rw [List.getElem?_append_left (List.getElem?_eq_some_iff.mp a1).1]; exact a1, a2, fun k' hk' => grow _ (a3 k' hk')⟩
  · rcases Nat.lt_or_ge k done.length with c | c
    · obtain ⟨j, hj, e⟩ := W.all k c
      exact ⟨j, hj, by rw [oAt_set_ne _ (fun z => by rw [z, e2] at e; cases e)]; exact e⟩
    · rw [List.length_append, List.length_singleton] at hk
      obtain rfl : k = done.length := by omega
      exact ⟨way m h K, hjm, self⟩
  · by_cases c : j = way m h K
    · rw [c]; exact List.mem_cons_self
    · rw [oAt_set_ne _ c] at e
      exact List.mem_cons_of_mem _ (hin j hj e)
theorem own_fold {m : Nat} (hm : Mk m) : ∀ (rest done : List Int) (owner : Array (Option Nat)), Own m done owner → done.length + rest.length ≤ m →
    ∃ owner', rest.foldl (stepF m) (some (owner, done.length)) = some (owner', (done ++ rest).length) ∧ Own m (done ++ rest) owner'
  | [], done, owner, W, _ => ⟨owner, by simp, by simpa using W⟩
  | h :: rest, done, owner, W, hl => by
    rw [List.length_cons] at hl
    obtain ⟨j, e, W'⟩ := own_step hm W (by omega) h
    have l1 : (done ++ [h]).length = done.length + 1 := by simp
    obtain ⟨owner', f, W2⟩ := own_fold hm rest (done ++ [h]) _ W' (by omega)
    rw [l1] at f
    rw [List.append_assoc, List.singleton_append] at f W2
    exact ⟨owner', by rw [List.foldl_cons, stepF_some e]; exact f, W2⟩
theorem own_all {m : Nat} (hm : Mk m) {hs : Array Int} (hn : hs.size ≤ m) : ∃ owner, SetTable.layClean m hs = some owner ∧ Own m hs.toList owner := by
  obtain ⟨owner, f, W⟩ := own_fold hm hs.toList [] _ (Own.init m) (by simpa using hn)
  refine ⟨owner, ?_, W⟩
  rw [layClean_eq]
  exact congrArg (Option.map (·.1)) f
theorem Tb.anew (t : SetTable) {hs : Array Int} {wanted M : Nat} (hw : SetTable.sizeAbove wanted - 1 = M) (hM : Mk M) (hn : hs.size ≤ M) :
    ∃ t' order, t.relaid hs wanted = some (t', order) ∧ order.toList.Perm (List.range hs.size) ∧ Tb t' (order.toList.map fun i => hs.getD i 0) ∧ t'.mask = M ∧ t'.led = t.led ∧ t'.plain = t.plain := by
  obtain ⟨owner, e, W⟩ := own_all hM hn
  obtain ⟨r1, r2⟩ := ris_live (fun j => owner.getD j none) (List.range (M + 1)) (by unfold Ris; exact List.pairwise_lt_range)
  have r1 : Ris ((liveOf M owner).map (·.1)) := r1
  have nd : ((liveOf M owner).map (·.1)).Nodup := r1.imp fun h => Nat.ne_of_lt h
  have inAll : ∀ k, k < hs.size → k ∈ (liveOf M owner).map (·.2) := fun k hk => by
    obtain ⟨j, b1, b2⟩ := W.all k (by simpa using hk)
    exact List.mem_map.mpr ⟨(j, k), (mem_live W.sz).2 ⟨b1, b2⟩, rfl⟩
  have hlen : (liveOf M owner).length = hs.size := by
    obtain ⟨ps, p1, p2⟩ := W.ps
    have a := nat_nodup_len _ ps nd fun x hx => by
      obtain ⟨⟨y, k⟩, hq, rfl⟩ := List.mem_map.mp hx
      obtain ⟨b1, b2⟩ := (mem_live W.sz).1 hq
      exact p2 y b1 (by rw [b2]; intro z; cases z)
    have b := nat_nodup_len (List.range hs.size) _ List.nodup_range fun k hk => inAll k (List.mem_range.mp hk)
    have hz : hs.toList.length = hs.size := rfl
    rw [List.length_map, p1, hz] at a
    rw [List.length_map, List.length_range] at b
    omega
  refine ⟨tabOf t M owner, ((liveOf M owner).map (·.2)).toArray, by rw [relaid_eq, hw, e]; rfl, perm_range hs.size _ (by simpa using hlen) (by simpa using inAll), ⟨r1, rfl, ?_, hM, fun x hx => ?_, fun i h j h1 h2 => ?_⟩, rfl, rfl, rfl⟩
  · show ((liveOf M owner).map (·.1)).length = _
    simp
  · exact Nat.le_of_lt_succ (List.mem_range.mp (r2 x hx))
  · have h1' : (((liveOf M owner).map (·.2)).map fun i => hs.getD i 0)[i]? = some h := h1
    have h2' : ((liveOf M owner).map (·.1))[i]? = some j := h2
    simp only [List.getElem?_map, Option.map_map, Option.map_eq_some_iff] at h1' h2'
    obtain ⟨q, hq, eh⟩ := h1'
    obtain ⟨q', hq', ej⟩ := h2'
    rw [hq] at hq'
    cases hq'
    obtain ⟨y, k⟩ := q
    obtain ⟨b1, b2⟩ := (mem_live W.sz).1 (List.mem_of_getElem? hq)
    obtain ⟨h0, K, a1, a2, a3⟩ := W.at_ y k b1 b2
    have e0 : hs.getD k 0 = h0 := by rw [Array.getD_eq_getD_getElem?, ← Array.getElem?_toList, a1]; rfl
    have e1 : h0 = h := e0.symm.trans eh
    have e2 : y = j := ej
    subst e1 e2
    refine ⟨K, a2, fun k' hk' => ?_⟩
    show way M h0 k' ∈ (liveOf M owner).map (·.1)
    cases z : oAt owner (way M h0 k') with
    | none => exact absurd z (a3 k' hk')
    | some k2 => exact List.mem_map.mpr ⟨(way M h0 k', k2), (mem_live W.sz).2 ⟨wayLe _ _ _, z⟩, rfl⟩
/-- how tables grow -/
def grownTo (n m : Nat) : Bool := SetTable.sizeAbove (SetTable.grown n) == m + 1
theorem grow5 : grownTo 5 31 = true := by decide +kernel
theorem grow19 : grownTo 19 127 = true := by decide +kernel
theorem grow77 : grownTo 77 511 = true := by decide +kernel
theorem grow307 : grownTo 307 2047 = true := by decide +kernel
theorem Mk.grows {m n : Nat} (hm : Mk m) (h1 : n * 5 < m * 3) (h2 : (n + 1) * 5 ≥ m * 3) (h3 : n ≤ 1000) : ∃ M, Mk M ∧ SetTable.sizeAbove (SetTable.grown (n + 1)) = M + 1 ∧ (n + 1) * 5 < M * 3 ∧ m < M := by
  rcases hm with e | e | e | e | e
  · obtain rfl : n = 4 := by omega
    exact ⟨31, .inr (.inl rfl), beq_iff_eq.mp grow5, by omega, by omega⟩
  · obtain rfl : n = 18 := by omega
    exact ⟨127, .inr (.inr (.inl rfl)), beq_iff_eq.mp grow19, by omega, by omega⟩
  · obtain rfl : n = 76 := by omega
    exact ⟨511, .inr (.inr (.inr (.inl rfl))), beq_iff_eq.mp grow77, by omega, by omega⟩
  · obtain rfl : n = 306 := by omega
    exact ⟨2047, .inr (.inr (.inr (.inr rfl))), beq_iff_eq.mp grow307, by omega, by omega⟩
  · omega
end DL

set_option Elab.async false
set_option linter.all false
set_option maxRecDepth 100000
set_option maxHeartbeats 4000000
namespace DL
open PySem PySem.Spec PyProof.Rows L2
/-! ### sets of nested tuples -/
abbrev NI (h : Heap) (k : NestedKey) (a : Addr) : Prop := NestedIs h k (.ref a) ∧ k.depth ≤ 8
theorem NI.keep {h h' : Heap} {k : NestedKey} {a : Addr} (x : NI h k a) (hk : ∀ b o, h.get? b = some o → h'.get? b = some o) : NI h' k a := ⟨NestedIs.at (fun b o _ _ e _ => hk b o e) _ _ x.1, x.2⟩
theorem NI.same {h h' : Heap} {k : NestedKey} {a b : Addr} {o : Obj} {es : Array (Int × Value)} {ep : Nat} {t : SetTable} (x : NI h k b) (ho : h.get? a = some o) (hd : o.data = .set es ep t) (hs : Heap.SameBut a h h') : NI h' k b :=
  ⟨NestedIs.at (fun c oc vs n hc hv => (hs.2 c fun e => by
    subst e
    rw [ho] at hc
    cases hc
    rw [hd] at hv
    cases hv).trans hc) _ _ x.1, x.2⟩
section
variable {P : Program} {w : World}
/-- a question that tells nothing of a class -/
def Bare (P : Program) (w : World) (n : Nat) (s : Shared) (v : Value) : Prop := ∀ (A : Around) (E : Value → Shared → Prop) (Q : Bool → Shared → Prop), Q false s → wpAny (model P w) A (ofAClassStatement n v) Q E s
theorem Bare.val {n : Nat} {s : Shared} {v : Value} (e : ofAClassStatement n v = pure false) : Bare P w n s v := fun A E Q h => by rw [e]; exact wpAny_pure h
theorem Bare.tup {n : Nat} {s : Shared} {a : Addr} {o : Obj} {vs : Array Value} {m : Nat} (ho : s.heap.get? a = some o) (hc : o.cls = .type "tuple") (hd : o.data = .seq vs m) (hq : ∀ v ∈ vs.toList, Bare P w n s v) : Bare P w (n + 1) s (.ref a) := fun A E Q h => by
  have hT : s.TypeIs (.ref a) "tuple" := ⟨o, ho, hc⟩
  unfold ofAClassStatement
  refine wpAny_bind (wpAny_typeOf hT ?_)
  dsimp only
  have e : (("tuple" : String) == "tuple") = true := by decide
  simp only [e, if_true, Bool.not_true, Bool.false_eq_true, if_false]
  try refine wpAny_bind (wpAny_pure ?_)
  try simp only [Bool.not_true, Bool.false_eq_true, if_false]
  show wpAny _ _ (seqItems? (.ref a) >>= _) _ _ s
  refine wpAny_bind (wpAny_seqItems ho hd ?_)
  dsimp only
  refine wpAny_bind ?_
  show wpAny _ _ (forIn vs _ _) _ _ s
  rw [← Array.forIn_toList]
  refine wpAny_forIn_list _ (fun rest r s' => r.1 = none ∧ s' = s ∧ ∀ v ∈ rest, Bare P w n s v) _ ?_ ?_ _ _ ⟨rfl, rfl, hq⟩
  · rintro v rest r s' ⟨hr, rfl, hall⟩
    refine wpAny_bind (hall v List.mem_cons_self _ _ _ ?_)
    simp only [Bool.false_eq_true, if_false]
    exact wpAny_pure ⟨rfl, rfl, fun u hu' => hall u (List.mem_cons_of_mem _ hu')⟩
  · rintro ⟨r1, r2⟩ s' ⟨hr, rfl, _⟩
    simp only at hr
    subst hr
    exact wpAny_pure h
mutual
theorem bare_key : ∀ (k : NestedKey) (v : Value) (n : Nat) (s : Shared), NestedIs s.heap k v → k.depth ≤ n → Bare P w n s v
  | .none, _, n, s, x, _ => by cases x; exact .val (by cases n <;> rfl)
  | .num i, _, n, s, x, _ => by cases x <;> exact .val (by cases n <;> rfl)
  | .text y, _, n, s, x, _ => by cases x; exact .val (by cases n <;> rfl)
  | .tup ks, _, n, s, x, hn => by
    cases x with
    | tup hg hc hd hk =>
      simp only [NestedKey.depth] at hn
      cases n with
      | zero => omega
      | succ n => exact .tup hg hc hd (bare_keys ks _ n s hk (by omega))
theorem bare_keys : ∀ (ks : List NestedKey) (vs : List Value) (n : Nat) (s : Shared), NestedAll s.heap ks vs → NestedKey.depthAll ks ≤ n → ∀ v ∈ vs, Bare P w n s v
  | [], _, n, s, x, _, v, hv => by cases x; cases hv
  | k :: ks, _, n, s, x, hn, v, hv => by
    cases x with
    | cons x1 x2 =>
      simp only [NestedKey.depthAll] at hn
      rcases List.mem_cons.mp hv with e | hv
      · rw [e]; exact bare_key k _ n s x1 (by omega)
      · exact bare_keys ks _ n s x2 (by omega) v hv
end
/-- whether its hash is by value: a truth -/
def HbT (P : Program) (w : World) (n : Nat) (s : Shared) (v : Value) : Prop := ∀ (A : Around) (E : Value → Shared → Prop) (Q : Bool → Shared → Prop), (∀ b, Q b s) → wpAny (model P w) A (hashByValue n v) Q E s
theorem HbT.val {n : Nat} {s : Shared} {v : Value} {b : Bool} (e : hashByValue n v = pure b) : HbT P w n s v := fun A E Q h => by rw [e]; exact wpAny_pure (h b)
theorem HbT.tup {n : Nat} {s : Shared} {a : Addr} {o : Obj} {vs : Array Value} {m : Nat} (ho : s.heap.get? a = some o) (hc : o.cls = .type "tuple") (hd : o.data = .seq vs m) (hq : ∀ v ∈ vs.toList, HbT P w n s v) : HbT P w (n + 1) s (.ref a) := fun A E Q h => by
  have hT : s.TypeIs (.ref a) "tuple" := ⟨o, ho, hc⟩
  unfold hashByValue
  refine wpAny_bind (wpAny_specialOf hT F.slot_tuple_hash.lookup ?_)
  show wpAny _ _ (seqItems? (.ref a) >>= _) _ _ s
  refine wpAny_bind (wpAny_seqItems ho hd ?_)
  refine wpAny_bind ?_
  show wpAny _ _ (forIn vs _ _) _ _ s
  rw [← Array.forIn_toList]
  refine wpAny_forIn_list _ (fun rest r s' => r.1 = none ∧ s' = s ∧ ∀ v ∈ rest, HbT P w n s v) _ ?_ ?_ _ _ ⟨rfl, rfl, hq⟩
  · rintro v rest r s' ⟨hr, rfl, hall⟩
    refine wpAny_bind (hall v List.mem_cons_self _ _ _ fun b => ?_)
    cases b with
    | true =>
      simp only [Bool.not_true, Bool.false_eq_true, if_false]
      exact wpAny_pure ⟨rfl, rfl, fun u hu' => hall u (List.mem_cons_of_mem _ hu')⟩
    | false =>
      simp only [Bool.not_false, if_true]
      exact wpAny_pure (wpAny_pure (h false))
  · rintro ⟨r1, r2⟩ s' ⟨hr, rfl, _⟩
    simp only at hr
    subst hr
    exact wpAny_pure (h true)
mutual
theorem hb_key : ∀ (k : NestedKey) (v : Value) (n : Nat) (s : Shared), NestedIs s.heap k v → HbT P w n s v
  | .none, _, n, s, x => by cases x; exact .val (b := true) (by cases n <;> rfl)
  | .num i, _, n, s, x => by cases x <;> exact .val (b := true) (by cases n <;> rfl)
  | .text y, _, n, s, x => by cases x; exact .val (b := false) (by cases n <;> rfl)
  | .tup ks, _, n, s, x => by
    cases x with
    | tup hg hc hd hk =>
      cases n with
      | zero => exact .val (b := false) rfl
      | succ n => exact .tup hg hc hd (hb_keys ks _ n s hk)
theorem hb_keys : ∀ (ks : List NestedKey) (vs : List Value) (n : Nat) (s : Shared), NestedAll s.heap ks vs → ∀ v ∈ vs, HbT P w n s v
  | [], _, n, s, x, v, hv => by cases x; cases hv
  | k :: ks, _, n, s, x, v, hv => by
    cases x with
    | cons x1 x2 =>
      rcases List.mem_cons.mp hv with e | hv
      · rw [e]; exact hb_key k _ n s x1
      · exact hb_keys ks _ n s x2 v hv
end
end
section
variable {P : Program} {w : World} {A : Around} {E : Value → Shared → Prop} {s : Shared}
theorem seen_key {k : NestedKey} {b : Addr} {Q : Bool → Shared → Prop} (hk : NI s.heap k b) {ys : List Value} (hy : ∀ y ∈ ys, ∃ k' c, y = Value.ref c ∧ NI s.heap k' c) (h : Q false s) :
    wpAny (model P w) A (searchCouldBeSeen (.ref b) ys) Q E s := by
  unfold searchCouldBeSeen
  refine wpAny_bind (wpAny_forIn_list _ (fun rest r s' => r.1 = none ∧ s' = s ∧ ∀ y ∈ rest, ∃ k' c, y = Value.ref c ∧ NI s.heap k' c) _ ?_ ?_ _ _ ⟨rfl, rfl, hy⟩)
  · rintro v rest r s' ⟨hr, rfl, hall⟩
    obtain ⟨k', c, rfl, hc⟩ := hall v List.mem_cons_self
    have rest' := fun u hu' => hall u (List.mem_cons_of_mem _ hu')
    dsimp only
    by_cases hv : (b == c || (carriedByValue (.ref b) && carriedByValue (.ref c))) = true
    · exact wp_if_pos hv (wpAny_pure ⟨rfl, rfl, rest'⟩)
    · refine wp_if_neg hv (wpAny_bind (quiet_key _ _ 8 s' hk.1 hk.2 _ _ _ ?_))
      simp only [Bool.not_true, Bool.false_eq_true, if_false]
      refine wpAny_bind (quiet_key _ _ 8 s' hc.1 hc.2 _ _ _ ?_)
      simp only [Bool.not_true, Bool.false_eq_true, if_false]
      refine wpAny_bind (bare_key _ _ 8 s' hk.1 hk.2 _ _ _ ?_)
      simp only [Bool.false_eq_true, if_false]
      refine wpAny_bind (bare_key _ _ 8 s' hc.1 hc.2 _ _ _ ?_)
      simp only [Bool.false_eq_true, if_false]
      exact wpAny_pure ⟨rfl, rfl, rest'⟩
  · rintro ⟨r1, r2⟩ s' ⟨hr, rfl, _⟩
    simp only at hr
    subst hr
    exact wpAny_pure h
theorem eqB_key {x y : NestedKey} {a b : Addr} {Q : Bool → Shared → Prop} (hu : A.units + 8 < cLine) (hx : NI s.heap x a) (hy : NI s.heap y b) (h : Q (decide (x = y)) s) : wpAny (model P w) A (eqBool (.ref a) (.ref b)) Q E s :=
  (nestedKind P w).eqBool (x := x) (y := y) hu hx hy h
/-! ### the set -/
abbrev rowsN (w : World) (L : List (Addr × NestedKey)) : List (Int × Value) := L.map fun p => (p.2.hash w, Value.ref p.1)
structure SN (w : World) (h : Heap) (a : Addr) (L : List (Addr × NestedKey)) (es : Array (Int × Value)) (ep : Nat) (t : SetTable) : Prop where
  ob : ∃ o, h.get? a = some o ∧ o.ExactSet ∧ o.data = .set es ep t
  rows : es.toList = rowsN w L
  tab : Tb t (L.map fun p => p.2.hash w)
  nd : (L.map (·.2)).Nodup
  key : ∀ p ∈ L, NI h p.2 p.1
  led : w.params.followText "set-order" = true ∨ t.led = true
  room : L.length * 5 < t.mask * 3
  few : L.length ≤ 1000
variable {a : Addr} {L : List (Addr × NestedKey)} {es : Array (Int × Value)} {ep : Nat} {t : SetTable}
theorem rows_size {L : List (Addr × NestedKey)} {es : Array (Int × Value)} (r : es.toList = rowsN w L) : es.size = L.length := by
  have h := congrArg List.length r
  simpa using h
theorem tb_fits {hs : List Int} {n : Nat} (T : Tb t hs) (hn : n = hs.length) (hm : hs.length ≤ t.mask) : t.fits n = true := by
  unfold SetTable.fits SetTable.fill
  have h1 := T.sz
  rw [Array.length_toList] at h1
  rw [T.dm, Bool.and_eq_true, beq_iff_eq, decide_eq_true_eq]
  show t.place.size = n ∧ t.place.size + 0 ≤ t.mask
  omega
theorem SN.fits (R : SN w s.heap a L es ep t) : t.fits es.size = true :=
  tb_fits R.tab (by rw [rows_size R.rows, List.length_map]) (by rw [List.length_map]; have := R.room; omega)
theorem SN.entry (R : SN w s.heap a L es ep t) {i : Nat} {p : Addr × NestedKey} (h : L[i]? = some p) : es[i]? = some (p.2.hash w, Value.ref p.1) := by
  rw [← Array.getElem?_toList, R.rows, List.getElem?_map, h]
  rfl
theorem SN.gw (R : SN w s.heap a L es ep t) : ¬ t.gaveWay = true := by
  unfold SetTable.gaveWay
  rw [R.tab.mok.odd]
  decide
theorem nth_dummy (m : Nat) : ∀ (n : Nat) (p : SetTable.Probe), p.dummy = none → (nth m p n).dummy = none
  | 0, _, h => h
  | n + 1, p, h => nth_dummy m n (adv m p) (by unfold adv; split <;> exact h)
abbrev wst (m : Nat) (h : Int) (c : Nat) : SetTable.Probe := nth m (runAt m (SetTable.bits h % (m + 1)) (SetTable.bits h)) c
/-- the search, from the c-th step on -/
theorem look_from (R : SN w s.heap a L es ep t) {x : Addr} {k : NestedKey} {hx : Int} (ehx : k.hash w = hx) (nx : NI s.heap k x) (hu : A.units + 8 < cLine) {K : Nat} (hKf : K < 10 * SetTable.turns t.mask)
    (hK : way t.mask hx K ∉ t.place.toList) (hKb : ∀ c, c < K → way t.mask hx c ∈ t.place.toList) {Q : SetFound → Shared → Prop}
    (hin : k ∈ L.map (·.2) → Q (.there none) s) (hout : k ∉ L.map (·.2) → Q (.free (way t.mask hx K) false) s) :
    ∀ (f c : Nat) (stand : Option SetTable.Probe), stand.getD (t.probeStart hx) = wst t.mask hx c → c ≤ K → K - c < f →
      (∀ (i : Nat) p, L[i]? = some p → p.2 = k → ∃ c', c ≤ c' ∧ c' < K ∧ t.place.toList[i]? = some (way t.mask hx c')) →
      wpAny (model P w) A (setSearchFrom a (.ref x) hx true f stand) Q E s
  | 0, c, stand, _, _, hf, _ => absurd hf (Nat.not_lt_zero _)
  | f + 1, c, stand, hst, hc, hf, hre => by
    obtain ⟨o, ho, hex, hd⟩ := R.ob
    rw [setSearchFrom_succ]
    refine wpAny_bind (wpAny_setState_of ho hd R.fits ?_)
    dsimp only
    refine wp_if_neg R.gw ?_
    try refine wpAny_bind (wpAny_pure ?_)
    have sh : ∀ q, nth t.mask (wst t.mask hx c) q = wst t.mask hx (c + q) := fun q => (nth_add t.mask c _ q).symm
    have e1 : ∀ q, (nth t.mask (wst t.mask hx c) q).j = way t.mask hx (c + q) := fun q => congrArg SetTable.Probe.j (sh q)
    have hashAt : ∀ (i : Nat) p, L[i]? = some p → (es[i]?.map (·.1)).getD 0 = p.2.hash w := fun i p hp => by rw [R.entry hp]; rfl
    have spec := go_spec t R.tab.ris R.tab.dm (fun i => (es[i]?.map (·.1)).getD 0) hx (10 * SetTable.turns t.mask) (K - c) (wst t.mask hx c) (nth_dummy _ _ _ rfl) (by omega)
      (fun q hq => by rw [e1]; exact hKb (c + q) (by omega)) (by rw [e1, show c + (K - c) = K by omega]; exact hK)
    rcases spec with ⟨q, i, hq, hi, hh, hno, hpr⟩ | ⟨hno, hpr⟩
    · have hpr' : t.probe (fun i => (es[i]?.map (·.1)).getD 0) hx (stand.getD (t.probeStart hx)) = some (.candidate (way t.mask hx (c + q)) i (wst t.mask hx (c + (q + 1)))) := by
        rw [hst, ← e1, ← sh]
        exact hpr
      rw [hpr']
      dsimp only
      rw [e1] at hi
      have hil : i < L.length := by
        have h1 := (List.getElem?_eq_some_iff.mp hi).1
        rw [R.tab.sz, List.length_map] at h1
        exact h1
      obtain ⟨p, hp⟩ : ∃ p, L[i]? = some p := ⟨_, List.getElem?_eq_getElem hil⟩
      have hmem : p ∈ L := List.mem_of_getElem? hp
      have hsl : t.slot (way t.mask hx (c + q)) = .live i := slot_live R.tab.ris hi
      have rest : wpAny (model P w) A (searchRest a (.ref x) hx true f es t (way t.mask hx (c + q)) i (wst t.mask hx (c + (q + 1)))) Q E s := by
        unfold searchRest
        rw [R.entry hp]
        dsimp only
        refine wpAny_bind (wpAny_holding (eqB_key hu (R.key p hmem) nx ?_))
        refine wpAny_bind (wpAny_setState_of ho hd R.fits ?_)
        dsimp only
        by_cases hkk : p.2 = k
        · refine wp_if_pos (by simp [hkk]) ?_
          exact wpAny_pure (hin (List.mem_map.mpr ⟨p, hmem, hkk⟩))
        · refine wp_if_neg (by simp [hkk]) ?_
          try refine wpAny_bind (wpAny_pure ?_)
          rw [sameMem]
          dsimp only
          simp only [if_true, hsl, R.entry hp]
          refine wpAny_bind (wpAny_isSame_ref_self (wpAny_bind (wpAny_pure ?_)))
          simp only [if_true]
          refine wp_if_neg (by simp [hkk]) ?_
          refine look_from R ehx nx hu hKf hK hKb hin hout f (c + (q + 1)) _ rfl (by omega) (by omega) fun i0 p0 h0 hk0 => ?_
          obtain ⟨c', a1, a2, a3⟩ := hre i0 p0 h0 hk0
          refine ⟨c', ?_, a2, a3⟩
          have n1 : ¬ c' < c + q := fun z => hno (c' - c) i0 (by omega) (by rw [e1, show c + (c' - c) = c' by omega]; exact a3) ((hashAt i0 p0 h0).trans (by rw [hk0, ehx]))
          have n2 : c' ≠ c + q := fun ec => by
            rw [ec] at a3
            have s0 := slot_live R.tab.ris a3
            rw [hsl] at s0
            injection s0 with s0
            rw [← s0, hp] at h0
            cases h0
            exact hkk hk0
          omega
      by_cases hl : t.led = true
      · refine wp_if_neg (by simp [hl]) ?_
        try refine wpAny_bind (wpAny_pure ?_)
        exact rest
      · refine wp_if_pos (by simp [hl]) (wpAny_bind (seen_key nx (fun y hy => ?_) ?_))
        · obtain ⟨e, he, ee⟩ := List.mem_map.mp hy
          have he1 : e ∈ es ∧ e.1 = hx := by simpa using he
          have he2 : e ∈ es.toList := by simpa using he1.1
          rw [R.rows] at he2
          obtain ⟨p2, hp2, e2⟩ := List.mem_map.mp he2
          exact ⟨p2.2, p2.1, by rw [← ee, ← e2], R.key p2 hp2⟩
        · refine wp_if_neg (by decide) ?_
          try refine wpAny_bind (wpAny_pure ?_)
          exact rest
    · have hpr' : t.probe (fun i => (es[i]?.map (·.1)).getD 0) hx (stand.getD (t.probeStart hx)) = some (.empty (way t.mask hx K) none) := by
        have e2 : way t.mask hx K = (nth t.mask (wst t.mask hx c) (K - c)).j := by rw [e1, show c + (K - c) = K by omega]
        rw [hst, e2]
        exact hpr
      rw [hpr']
      dsimp only
      refine wpAny_pure (hout fun hm => ?_)
      obtain ⟨p0, h0, hk0⟩ := List.mem_map.mp hm
      obtain ⟨i0, hi0, e0⟩ := List.getElem_of_mem h0
      have h00 : L[i0]? = some p0 := by rw [List.getElem?_eq_getElem hi0, e0]
      obtain ⟨c', a1, a2, a3⟩ := hre i0 p0 h00 hk0
      exact hno (c' - c) i0 (by omega) (by rw [e1, show c + (c' - c) = c' by omega]; exact a3) ((hashAt i0 p0 h00).trans (by rw [hk0, ehx]))
theorem look_at (R : SN w s.heap a L es ep t) {x : Addr} {k : NestedKey} {hx : Int} (ehx : k.hash w = hx) (nx : NI s.heap k x) (hu : A.units + 8 < cLine) {Q : SetFound → Shared → Prop}
    (hin : k ∈ L.map (·.2) → Q (.there none) s)
    (hout : ∀ K, k ∉ L.map (·.2) → way t.mask hx K ∉ t.place.toList → (∀ c, c < K → way t.mask hx c ∈ t.place.toList) → Q (.free (way t.mask hx K) false) s) :
    wpAny (model P w) A (setSearch a (.ref x) hx true) Q E s := by
  have hroom := R.room
  obtain ⟨K, hKf, hK, hKb⟩ := R.tab.first (by rw [List.length_map]; omega) hx
  have hm := R.tab.mok.le
  unfold setSearch
  refine look_from R ehx nx hu hKf hK hKb hin (fun hn => hout K hn hK hKb) 100000 0 none rfl (Nat.zero_le _) (by unfold SetTable.turns at hKf; omega) fun i p hp hk => ?_
  have hi : (L.map fun p => p.2.hash w)[i]? = some hx := by rw [List.getElem?_map, hp, ← ehx, ← hk]; rfl
  have hil : i < t.place.toList.length := by
    rw [R.tab.sz, List.length_map]
    exact (List.getElem?_eq_some_iff.mp hp).1
  have hj := List.getElem?_eq_getElem hil
  obtain ⟨c, hc, e⟩ := R.tab.before hK hi hj
  exact ⟨c, Nat.zero_le _, hc, by rw [hj, e]⟩
end
end DL

set_option Elab.async false
set_option linter.all false
set_option maxRecDepth 100000
set_option maxHeartbeats 4000000
namespace DL
open PySem PySem.Spec PyProof.Rows L2
theorem ins_perm {α : Type} (L : List α) (p : Nat) (x : α) : (L.take p ++ x :: L.drop p).Perm (x :: L) := by
  have h : (L.take p ++ x :: L.drop p).Perm (x :: (L.take p ++ L.drop p)) := List.perm_middle
  rwa [List.take_append_drop] at h
section
variable {P : Program} {w : World} {A : Around} {E : Value → Shared → Prop} {s : Shared}
theorem range_pick {α : Type} (L : List α) : ∀ n, n ≤ L.length → (List.range n).filterMap (fun i => L[i]?) = L.take n
  | 0, _ => rfl
  | n + 1, hn => by
    have hlt : n < L.length := hn
    rw [List.range_succ, List.filterMap_append, range_pick L n (Nat.le_of_lt hlt), List.take_succ, List.getElem?_eq_getElem hlt, List.filterMap_cons_some (List.getElem?_eq_getElem hlt)]
    rfl
/-- the rows in another order -/
theorem rows_order (L : List (Addr × NestedKey)) (es : Array (Int × Value)) (order : Array Nat) (hr : es.toList = rowsN w L) (hp : order.toList.Perm (List.range L.length)) :
    ∃ L2, (order.filterMap (es[·]?)).toList = rowsN w L2 ∧ L2.Perm L ∧ (L2.map fun p => p.2.hash w) = order.toList.map fun i => (es.map (·.1)).getD i 0 := by
  have ent : ∀ i, es[i]? = (L[i]?).map fun p : Addr × NestedKey => (p.2.hash w, Value.ref p.1) := fun i => by
    rw [← Array.getElem?_toList, hr, List.getElem?_map]
  have go : ∀ l : List Nat, (∀ i ∈ l, i < L.length) → l.filterMap (fun i => es[i]?) = rowsN w (l.filterMap fun i => L[i]?) ∧ ((l.filterMap fun i => L[i]?).map fun p => p.2.hash w) = l.map fun i => (es.map (·.1)).getD i 0 := by
    intro l
    induction l with
    | nil => intro _; exact ⟨rfl, rfl⟩
    | cons i l ih =>
      intro hl
      obtain ⟨e1, e2⟩ := ih fun j hj => hl j (List.mem_cons_of_mem _ hj)
      have hi := List.getElem?_eq_getElem (hl i List.mem_cons_self)
      have e3 : es[i]? = some ((L[i]'(hl i List.mem_cons_self)).2.hash w, Value.ref (L[i]'(hl i List.mem_cons_self)).1) := by rw [ent, hi]; rfl
      rw [List.filterMap_cons_some e3, List.filterMap_cons_some hi, e1]
      refine ⟨rfl, ?_⟩
      have e4 : (es.map (·.1)).getD i 0 = (L[i]'(hl i List.mem_cons_self)).2.hash w := by
        rw [Array.getD_eq_getD_getElem?, Array.getElem?_map, e3]
        rfl
      rw [List.map_cons, List.map_cons, e2, e4]
  obtain ⟨e1, e2⟩ := go order.toList fun i hi => List.mem_range.mp (hp.mem_iff.mp hi)
  refine ⟨_, by first | (rw [Array.toList_filterMap]; exact e1) | simpa using e1, ?_, e2⟩
  have z := hp.filterMap fun i => L[i]?
  rwa [range_pick L _ (Nat.le_refl _), List.take_length] at z
variable {a : Addr} {L : List (Addr × NestedKey)} {es : Array (Int × Value)} {ep : Nat} {t : SetTable}
theorem relay_key {o : Obj} (ho : s.heap.get? a = some o) (hex : o.ExactSet) (hd : o.data = .set es ep t) (hrows : es.toList = rowsN w L) (hfits : t.fits es.size = true)
    (nd : (L.map (·.2)).Nodup) (key : ∀ p ∈ L, NI s.heap p.2 p.1) (ld : w.params.followText "set-order" = true ∨ t.led = true) (few : L.length ≤ 1000) {wanted M : Nat}
    (hw : SetTable.sizeAbove wanted = M + 1) (hM : Mk M) (hn : L.length * 5 < M * 3) {Q : Unit → Shared → Prop}
    (hQ : ∀ h' L' es' ep' t', Heap.SameBut a s.heap h' → SN w h' a L' es' ep' t' → L'.Perm L → Q () { s with heap := h' }) : wpAny (model P w) A (setRelay a wanted) Q E s := by
  have hsl := rows_size hrows
  obtain ⟨t', order, e, hp, T, em, el, ep'⟩ := Tb.anew t (hs := es.map (·.1)) (wanted := wanted) (by rw [hw]; rfl) hM (by rw [Array.size_map, hsl]; omega)
  rw [Array.size_map, hsl] at hp
  obtain ⟨L2, r1, r2, r3⟩ := rows_order L es order hrows hp
  rw [← r3] at T
  have hs2 : (order.filterMap (es[·]?)).size = es.size := by rw [rows_size r1, r2.length_eq, hsl]
  have hM2 := hM.le
  rw [setRelay_eq]
  refine wpAny_bind (wpAny_setState_of ho hd hfits ?_)
  dsimp only
  refine wp_if_neg (by rw [sizeLine_eq]; omega) ?_
  try refine wpAny_bind (wpAny_pure ?_)
  rw [e]
  dsimp only
  refine wpAny_bind ?_
  refine wp_if_neg (by rw [hs2]; simp) ?_
  try refine wpAny_bind (wpAny_pure ?_)
  refine wpAny_pure ?_
  dsimp only
  refine wpAny_storeSet_of ho hd ?_ (by rw [hs2, hsl, sizeLine_eq]; omega)
  have sb : Heap.SameBut a s.heap (s.heap.update a (Obj.putSet (order.filterMap (es[·]?)) t')) := Heap.SameBut.update ..
  refine hQ _ L2 (order.filterMap (es[·]?)) (ep + 1) t' sb ⟨⟨_, store_at ho hd, ⟨hex.1, hex.2.1, hex.2.2⟩, rfl⟩, r1, T, (r2.map (·.2)).nodup_iff.mpr nd, fun p hpm => (key p (r2.mem_iff.mp hpm)).same ho hd sb, by rw [el]; exact ld, ?_, ?_⟩ r2
  · rw [r2.length_eq, em]; exact hn
  · rw [r2.length_eq]; exact few
/-- behind the test of plainness: a Boolean's two roads -/
theorem add_key (R : SN w s.heap a L es ep t) {x : Addr} {k : NestedKey} {hx : Int} (ehx : k.hash w = hx) (nx : NI s.heap k x) (hu : A.units + 8 < cLine) (hfew : L.length + 1 ≤ 1000) {Q : Bool → Shared → Prop}
    (hQ : ∀ b h' L' es' ep' t', Heap.SameBut a s.heap h' → SN w h' a L' es' ep' t' → (k ∈ L.map (·.2) → L' = L) → (k ∉ L.map (·.2) → L'.Perm ((x, k) :: L)) → Q b { s with heap := h' }) :
    wpAny (model P w) A (setAddHashed a (.ref x) hx) Q E s := by
  obtain ⟨o, ho, hex, hd⟩ := R.ob
  have hsl := rows_size R.rows
  have hroom := R.room
  unfold setAddHashed
  refine wpAny_holding ?_
  rw [show (100000 : Nat) = 99999 + 1 from rfl, setAddHashedIn_succ]
  refine wpAny_bind (wpAny_setState_of ho hd R.fits ?_)
  dsimp only
  refine wp_if_neg (by simp [byScan, Value.scannable]) ?_
  try refine wpAny_bind (wpAny_pure ?_)
  refine wpAny_bind (look_at R ehx nx hu (fun hm => ?_) fun K hm hK hb => ?_)
  · dsimp only
    exact wpAny_pure (hQ false s.heap L es ep t (Heap.SameBut.refl a s.heap) R (fun _ => rfl) fun z => absurd hm z)
  · dsimp only
    refine wpAny_bind (wpAny_setState_of ho hd R.fits ?_)
    dsimp only
    obtain ⟨q2, q3, q9⟩ := R.tab.put rfl rfl hK hb
    have q5 : (t.put (way t.mask hx K)).1.led = t.led := rfl
    have q4 : (t.put (way t.mask hx K)).1.mask = t.mask := rfl
    have q1 : (t.put (way t.mask hx K)).2 = SetTable.below t.place (way t.mask hx K) := rfl
    rw [List.length_map] at q2 q9
    generalize hpt : t.put (way t.mask hx K) = pt at q1 q3 q4 q5 q9 ⊢
    obtain ⟨t1, p⟩ := pt
    dsimp only at q1 q3 q4 q5 q9 ⊢
    rw [← q1] at q3 q2
    clear q1 hpt
    have hin : (SetTable.insertAt es p (hx, Value.ref x)).toList = rowsN w (L.take p ++ (x, k) :: L.drop p) := by
      rw [SetTable.toList_insertAt, R.rows]
      show _ = List.map _ _
      rw [List.map_append, List.map_cons, List.map_take, List.map_drop, ehx]
    have pm := ins_perm L p (x, k)
    have hlen : (L.take p ++ (x, k) :: L.drop p).length = L.length + 1 := pm.length_eq
    have hhs : (L.take p ++ (x, k) :: L.drop p).map (fun p => p.2.hash w) = (L.map fun p => p.2.hash w).take p ++ hx :: (L.map fun p => p.2.hash w).drop p := by
      rw [List.map_append, List.map_cons, List.map_take, List.map_drop, ehx]
    rw [← hhs] at q3
    have nd1 : ((L.take p ++ (x, k) :: L.drop p).map (·.2)).Nodup := (pm.map (·.2)).nodup_iff.mpr (List.nodup_cons.mpr ⟨hm, R.nd⟩)
    have hes := rows_size hin
    rw [hlen] at hes
    generalize SetTable.insertAt es p (hx, Value.ref x) = es1 at hin hes ⊢
    generalize L.take p ++ (x, k) :: L.drop p = L1 at pm hlen q3 nd1 hin
    clear hhs q2
    have tail : ∀ t2 : SetTable, Tb t2 (L1.map fun p => p.2.hash w) → t2.mask = t.mask → t2.led = t.led → t2.fill = L.length + 1 →
        wpAny (model P w) A (do
          storeSet a es1 t2
          if (!false && t2.tooFull) = true then setRelay a (SetTable.grown (es.size + 1))
          pure true) Q E s := fun t2 T2 m2 l2 f2 => by
      refine wpAny_bind (wpAny_storeSet_of ho hd ?_ (by rw [hes, sizeLine_eq]; omega))
      have sb : Heap.SameBut a s.heap (s.heap.update a (Obj.putSet es1 t2)) := Heap.SameBut.update ..
      have ho1 := store_at (es' := es1) (t' := t2) ho hd
      generalize s.heap.update a (Obj.putSet es1 t2) = h1 at sb ho1 ⊢
      have key1 : ∀ p ∈ L1, NI h1 p.2 p.1 := fun p hp => by
        rcases List.mem_cons.mp (pm.mem_iff.mp hp) with e | hp
        · rw [e]; exact nx.same ho hd sb
        · exact (R.key p hp).same ho hd sb
      have ld1 : w.params.followText "set-order" = true ∨ t2.led = true := by rw [l2]; exact R.led
      have full : t2.tooFull = decide ((L.length + 1) * 5 ≥ t.mask * 3) := by
        unfold SetTable.tooFull
        rw [f2, m2]
      by_cases hf : (L.length + 1) * 5 ≥ t.mask * 3
      · have hf2 : t2.tooFull = true := by rw [full]; exact decide_eq_true hf
        obtain ⟨M, hM, hw, hr, hlt⟩ := R.tab.mok.grows hroom hf (by omega)
        have fin : wpAny (model P w) A (setRelay a (SetTable.grown (es.size + 1))) (fun _ s' => wpAny (model P w) A (pure true) Q E s') E { s with heap := h1 } := by
          rw [hsl]
          refine relay_key (s := { s with heap := h1 }) ho1 ⟨hex.1, hex.2.1, hex.2.2⟩ rfl hin (tb_fits T2 (by rw [hes, List.length_map, hlen]) (by rw [List.length_map, hlen, m2]; omega)) nd1 key1 ld1 (by rw [hlen]; exact hfew) hw hM (by rw [hlen]; exact hr) ?_
          intro h2 L2 es2 ep2 t3 sb2 R2 pm2
          exact wpAny_pure (hQ true h2 L2 es2 ep2 t3 (sb.trans sb2) R2 (fun z => absurd z hm) fun _ => pm2.trans pm)
        first
          | exact wpAny_bind (wp_if_pos (by simp [hf2]) fin)
          | exact wp_if_pos (by simp [hf2]) (wpAny_bind fin)
      · have hf2 : t2.tooFull = false := by rw [full]; exact decide_eq_false hf
        have fin : Q true { s with heap := h1 } := hQ true h1 L1 es1 (ep + 1) t2 sb ⟨⟨_, ho1, ⟨hex.1, hex.2.1, hex.2.2⟩, rfl⟩, hin, T2, nd1, key1, ld1, by rw [hlen, m2]; omega, by rw [hlen]; exact hfew⟩ (fun z => absurd z hm) fun _ => pm
        first
          | exact wp_if_neg (by simp [hf2]) (wpAny_pure fin)
          | exact wpAny_bind (wp_if_neg (by simp [hf2]) (wpAny_pure (wpAny_pure fin)))
    have off : Tb { t1 with plain := false } (L1.map fun p => p.2.hash w) := ⟨q3.ris, q3.dm, q3.sz, q3.mok, q3.bd, q3.reach⟩
    have both : ∀ b : Bool, wpAny (model P w) A (do
          storeSet a es1 (if b = true then t1 else { t1 with plain := false })
          if (!false && (if b = true then t1 else { t1 with plain := false }).tooFull) = true then setRelay a (SetTable.grown (es.size + 1))
          pure true) Q E s := fun b => by
      cases b with
      | true => exact tail t1 q3 q4 q5 q9
      | false => exact tail { t1 with plain := false } off q4 q5 q9
    by_cases hpl : t1.plain = true
    · first
        | exact wpAny_bind (wp_if_pos hpl (hb_key _ _ 8 s nx.1 _ _ _ both))
        | exact wp_if_pos hpl (wpAny_bind (hb_key _ _ 8 s nx.1 _ _ _ both))
    · first
        | exact wpAny_bind (wp_if_neg hpl (wpAny_pure (both true)))
        | exact wp_if_neg hpl (wpAny_bind (wpAny_pure (both true)))
        | exact wp_if_neg hpl (both true)
end
end DL

set_option Elab.async false
set_option linter.all false
set_option maxRecDepth 100000
set_option maxHeartbeats 4000000
namespace DL
open PySem PySem.Spec PyProof.Rows L2
/-- what a set has of the first i -/
structure Gt (ks : List (Addr × NestedKey)) (i : Nat) (L : List (Addr × NestedKey)) : Prop where
  sub : ∀ p ∈ L, p ∈ ks.take i
  all : ∀ p ∈ ks.take i, p.2 ∈ L.map (·.2)
  len : L.length ≤ i
theorem Gt.step {ks L L' : List (Addr × NestedKey)} {i : Nat} {x : Addr × NestedKey} (g : Gt ks i L) (h : ks[i]? = some x) (c1 : x.2 ∈ L.map (·.2) → L' = L) (c2 : x.2 ∉ L.map (·.2) → L'.Perm (x :: L)) : Gt ks (i + 1) L' := by
  have e : ks.take (i + 1) = ks.take i ++ [x] := by rw [List.take_succ, h]; rfl
  by_cases hm : x.2 ∈ L.map (·.2)
  · rw [c1 hm]
    refine ⟨fun p hp => by rw [e]; exact List.mem_append_left _ (g.sub p hp), fun p hp => ?_, Nat.le_succ_of_le g.len⟩
    rw [e] at hp
    rcases List.mem_append.mp hp with z | z
    · exact g.all p z
    · rw [List.mem_singleton.mp z]; exact hm
  · have pm := c2 hm
    refine ⟨fun p hp => ?_, fun p hp => ?_, by rw [pm.length_eq]; exact Nat.succ_le_succ g.len⟩
    · rw [e]
      rcases List.mem_cons.mp (pm.mem_iff.mp hp) with z | z
      · rw [z]; exact List.mem_append_right _ (List.mem_singleton.mpr rfl)
      · exact List.mem_append_left _ (g.sub p z)
    · rw [(pm.map (·.2)).mem_iff, List.map_cons]
      rw [e] at hp
      rcases List.mem_append.mp hp with z | z
      · exact List.mem_cons_of_mem _ (g.all p z)
      · rw [List.mem_singleton.mp z]; exact List.mem_cons_self
section
variable {P : Program} {w : World} {A : Around} {E : Value → Shared → Prop} {s : Shared}
theorem SN.keep {h h' : Heap} {a : Addr} {L : List (Addr × NestedKey)} {es : Array (Int × Value)} {ep : Nat} {t : SetTable} (R : SN w h a L es ep t) (ha : ∀ o, h.get? a = some o → h'.get? a = some o) (hk : ∀ p ∈ L, NI h' p.2 p.1) : SN w h' a L es ep t := by
  obtain ⟨o, ho, r⟩ := R.ob
  exact ⟨⟨o, ha o ho, r⟩, R.rows, R.tab, R.nd, hk, R.led, R.room, R.few⟩
theorem sn_new {h : Heap} {a : Addr} (ho : h.get? a = some (newS w)) : SN w h a [] #[] 0 (.fresh 0 0 (!w.params.followText "set-order")) where
  ob := ⟨_, ho, ⟨rfl, rfl, rfl⟩, rfl⟩
  rows := rfl
  tab := ⟨List.Pairwise.nil, rfl, rfl, .inl rfl, fun x hx => (by cases hx), fun i h j hi => (by simp at hi)⟩
  nd := List.nodup_nil
  key := fun p hp => (by cases hp)
  led := by
    show _ ∨ (!w.params.followText "set-order") = true
    cases w.params.followText "set-order"
    · exact .inr rfl
    · exact .inl rfl
  room := by show 0 * 5 < 7 * 3; decide
  few := Nat.zero_le _
theorem sn_loop {I : Addr} {fp wr : List Addr} {G : Array GenState → Array GenState → Prop} {n : Nat} {Pv : Nat → Value → Prop} {St : Nat → Shared → Prop} {R : Result → Shared → Prop}
    (W : WalksS P w A.in1 I fp wr G n Pv St) (T : Addr) (hT : T ∉ fp) (ks : List (Addr × NestedKey)) (hn : n = ks.length) (hb : ks.length ≤ 1000) (hval : ∀ i v, Pv i v → ∃ p, ks[i]? = some p ∧ v = .ref p.1)
    (h0 : Heap) (hk : ∀ p ∈ ks, NI h0 p.2 p.1) (hT0 : h0.get? T = none) (hw0 : ∀ b ∈ wr, h0.get? b = none) (hu : A.in1.units + 8 < cLine) :
    ∀ (m i : Nat) (s : Shared), n - i = m → i ≤ n → St i s → (∀ b o, h0.get? b = some o → s.heap.get? b = some o) → (∃ L es ep t, SN w s.heap T L es ep t ∧ Gt ks i L) →
      (∀ s' L es ep t, Moved (T :: wr) G s s' → SN w s'.heap T L es ep t → Gt ks n L → (∀ b o, h0.get? b = some o → s'.heap.get? b = some o) → R (.ok (.ret .none)) s') →
      codeAny (model P w) A (.builtin "set.update.loop" ⟨[.ref T, .ref I], []⟩) R s := by
  have n1 : T ∉ wr := fun z => hT (W.sub _ z)
  have n2 : ∀ b ∈ wr, b ∈ T :: wr := fun b z => List.mem_cons_of_mem _ z
  have kM : ∀ {s s' : Shared}, Moved wr G s s' → (∀ b o, h0.get? b = some o → s.heap.get? b = some o) → ∀ b o, h0.get? b = some o → s'.heap.get? b = some o := fun hm q b o e =>
    hm.heap b o (fun z => by rw [hw0 b z] at e; cases e) (q b o e)
  intro m
  induction m with
  | zero =>
    intro i s hk' hi hst hkp ⟨L, es, ep, t, hS, g⟩ hR
    obtain rfl : i = n := by omega
    refine codeAny_builtin F.entry_set_update_loop ?_
    rw [Around.under_plainId F.plain_set_update_loop _]
    refine (show wpAny _ A.in1 (pyNext (.ref I) >>= _) _ _ s from wpAny_bind (W.done s _ _ hst fun s' hm => ?_))
    have hkp' := kM hm hkp
    exact (show wpAny _ A.in1 (ret Value.none) _ _ s' from wpAny_pure (hR s' L es ep t (hm.mono n2) (hS.keep (fun o e => hm.heap T o n1 e) fun p hp => (hk p (List.mem_of_mem_take (g.sub p hp))).keep hkp') g hkp'))
  | succ m ih =>
    intro i s hk' hi hst hkp ⟨L, es, ep, t, hS, g⟩ hR
    have hlt : i < n := by omega
    refine codeAny_builtin F.entry_set_update_loop ?_
    rw [Around.under_plainId F.plain_set_update_loop _]
    refine (show wpAny _ A.in1 (pyNext (.ref I) >>= _) _ _ s from wpAny_bind (W.item i s _ _ hlt hst fun v s' hP hst' hm => ?_))
    obtain ⟨p, hp, rfl⟩ := hval i v hP
    have hkp' := kM hm hkp
    have hS1 : SN w s'.heap T L es ep t := hS.keep (fun o e => hm.heap T o n1 e) fun q hq => (hk q (List.mem_of_mem_take (g.sub q hq))).keep hkp'
    have nx : NI s'.heap p.2 p.1 := (hk p (List.mem_of_getElem? hp)).keep hkp'
    refine (show wpAny _ A.in1 (holding [Value.ref p.1] (setAdd T (.ref p.1)) >>= _) _ _ s' from wpAny_bind (wpAny_holding ?_))
    unfold setAdd
    refine wpAny_holding (wpAny_bind (pyHash_key (w := w) p.2 _ _ s' _ nx.1 (by have := nx.2; omega) ?_))
    refine add_key (s := { s' with toks := s'.toks + p.2.draws }) hS1 rfl nx hu (by have := g.len; omega) fun b h' L' es' ep' t' sb hS2 c1 c2 => ?_
    have hkp2 : ∀ b o, h0.get? b = some o → h'.get? b = some o := fun b o e => (sb.2 b (fun z => by rw [z, hT0] at e; cases e)).trans (hkp' b o e)
    refine wpAny_pure ⟨plainId_quiet F.plain_set_update_loop _, ih (i + 1) _ (by omega) hlt (W.frame _ s' _ _ hst' (Nat.le_add_right _ _) fun b hb o e => ?_) hkp2 ⟨L', es', ep', t', hS2, g.step hp c1 c2⟩ fun s2 L2 es2 ep2 t2 hm2 hS4 g2 hk2 => ?_⟩
    · rw [sb.2 b (fun q : b = T => hT (by rw [← q]; exact hb))]; exact e
    · refine hR s2 L2 es2 ep2 t2 (Moved.trans W.gtrans ((hm.mono n2).then_heap (Nat.le_add_right _ _) fun b o hb e => ?_) hm2) hS4 g2 hk2
      rw [sb.2 b (fun q : b = T => hb (by rw [q]; exact List.mem_cons_self))]; exact e
theorem set_of_keys {l : Addr} {items : Array Value} (ks : List (Addr × NestedKey)) {Q : Value → Shared → Prop} (hh : A.handled = none) (hl : s.heap.IsList l items) (hit : items.toList = ks.map fun p => Value.ref p.1) (hk : ∀ p ∈ ks, NI s.heap p.2 p.1) (hb : ks.length ≤ 1000) (hu : A.units + 16 < cLine)
    (h : ∀ (h' : Heap) (tk : Nat) L es ep t, SN w h' s.heap.objs.size L es ep t → Gt ks ks.length L → (∀ b o, s.heap.get? b = some o → h'.get? b = some o) → Q (.ref s.heap.objs.size) { s with heap := h', toks := tk }) :
    wpAny (model P w) A (call (.type "set") [.ref l]) Q E s := by
  have sz : items.size = ks.length := by rw [← Array.length_toList, hit, List.length_map]
  obtain ⟨c0, tl0, hmro⟩ := F.called_set.mro
  have f1 := F.called_set.made
  have f2 := F.called_set.sub
  have f3 := F.called_set.notType
  have f4 := F.called_set.canCreate
  have f5 := F.typeCall_set_1 (.ref l)
  refine wpAny_call (codeAny_of_tree (show wpAny _ _ (callAny (.type "set") _) _ _ _ from wpAny_pure ⟨Code.quiet_builtin _ (by decide +kernel), codeAny_builtin F.entry_type_call ?_⟩))
  rw [Around.under_plain (weight_type_call_type "set" [.ref l] []) rfl]
  repeat (any_goals (first | assumption | wp_step))
  refine codeAny_mono (code_set_led1 (.ref l) (E := E) (Q₁ := fun ob s1 => ob = .ref s.heap.objs.size ∧ s1 = { s with heap := s.heap.push (newS w) }) ⟨rfl, rfl⟩) fun r s1 hr => ?_
  cases r with
  | error e => exact hr
  | ok fl =>
    cases fl with
    | ret ob =>
      obtain ⟨rfl, rfl⟩ := hr
      have hS : (s.heap.push (newS w)).get? s.heap.objs.size = some (newS w) := Heap.get?_push_size _ rfl
      have hT : Shared.TypeIs { s with heap := s.heap.push (newS w) } (.ref s.heap.objs.size) "set" := ⟨_, hS, rfl⟩
      have f6 := F.called_set.init.lookup
      have f7 := F.called_set.init.bind (.ref s.heap.objs.size)
      repeat (any_goals (first | assumption | wp_step))
      refine codeAny_mono (codeAny_call_builtin (R := wants (fun r s2 => r = .none ∧ ∃ h' tk L es ep t, s2 = { s with heap := h', toks := tk } ∧ SN w h' s.heap.objs.size L es ep t ∧ Gt ks ks.length L ∧ (∀ b o, s.heap.get? b = some o → h'.get? b = some o)) E) F.called_set.init.plain F.entry_set_init (check_set_init_1 hT ?_)) fun r2 s2 hr2 => ?_
      · obtain ⟨ol, hol, hcl, nl, hdl⟩ := hl
        obtain ⟨ocls, odict, odata, oslots⟩ := ol
        simp only at hcl hdl
        subst hcl; subst hdl
        have hol1 : (s.heap.push (newS w)).get? l = some { cls := .type "list", dict := odict, data := .seq items nl, slots := oslots } := Heap.get?_push_of_some _ hol
        have f8 := F.sub_list_set
        have f9 := F.sub_list_frozenset
        have f10 : (Value.type "list" == Value.type "dict") = false := by decide
        have hl1 : (s.heap.push (newS w)).IsList l items := ⟨_, hol1, rfl, nl, rfl⟩
        unfold Builtin.«set.__init__» noKeywords Builtin.Frozenset.updateFrom
        generalize hPI : pyIter = PI
        wp_walk
        subst hPI
        refine wpAny_pyIter_list hl1 (wpAny_bind (wpAny_runValue ?_))
        have hlS : l < s.heap.objs.size := Heap.lt_size hol
        have zz : (s.heap.push (newS w)).objs.size = s.heap.objs.size + 1 := Heap.size_push ..
        have q1 : l ≠ (s.heap.push (newS w)).objs.size := by rw [zz]; exact Nat.ne_of_lt (Nat.lt_succ_of_lt hlS)
        have q2 : s.heap.objs.size ∉ [(s.heap.push (newS w)).objs.size, l] := by
          rw [zz]; simp only [List.mem_cons, List.mem_singleton, List.not_mem_nil, or_false, not_or]
          exact ⟨Nat.ne_of_lt (Nat.lt_succ_self _), Nat.ne_of_gt hlS⟩
        have none_of : ∀ b, s.heap.objs.size ≤ b → s.heap.get? b = none := fun b hb => by
          cases q : s.heap.get? b with
          | none => rfl
          | some o => exact absurd (Nat.lt_of_lt_of_le (Heap.lt_size q) hb) (Nat.lt_irrefl _)
        refine sn_loop ((Walks.list (by simp [hh]) _ l q1 items).toS) s.heap.objs.size q2 ks sz hb (fun i v hv => ?_) s.heap hk (none_of _ (Nat.le_refl _)) (fun b hb => none_of b (by rw [List.mem_singleton.mp hb, zz]; exact Nat.le_succ _)) (by simp only [Around.in1_units]; omega) (items.size - 0) 0 _ (by omega) (Nat.zero_le _) ⟨⟨_, Heap.get?_push_size _ rfl, rfl, rfl⟩, (hl1.push _)⟩ (fun b o e => Heap.get?_push_of_some _ (Heap.get?_push_of_some _ e)) ⟨[], #[], 0, _, sn_new (Heap.get?_push_of_some _ hS), ⟨fun p hp => (by cases hp), fun p hp => (by simp at hp), Nat.le_refl _⟩⟩ ?_
        · have q : items.toList[i]? = some v := by rw [Array.getElem?_toList]; exact hv
          rw [hit, List.getElem?_map] at q
          obtain ⟨p, hp, e⟩ := Option.map_eq_some_iff.mp q
          exact ⟨p, hp, e.symm⟩
        · intro s' L es ep t hm hS' g' hkp
          obtain ⟨h', g2, d', tk', os'⟩ := s'
          obtain rfl : g2 = s.gens := hm.gens
          obtain rfl : d' = s.drawn := hm.drawn
          obtain rfl : os' = s.os := hm.os
          refine (show wpAny _ _ _ _ _ _ from wpAny_pure (show wpAny _ _ (ret Value.none) _ _ _ from ?_))
          rw [sz] at g'
          exact wpAny_pure ⟨rfl, h', tk', L, es, ep, t, rfl, hS', g', hkp⟩
      · cases r2 with
        | error e => exact hr2
        | ok fl2 =>
          cases fl2 with
          | ret r =>
            obtain ⟨rfl, h', tk, L, es, ep, t, rfl, hS', g', hk'⟩ := hr2
            repeat (any_goals (first | assumption | wp_step))
            exact h _ _ _ _ _ _ hS' g' hk'
          | _ => exact hr2.elim
    | _ => exact hr.elim
theorem set_of_keysT {l : Addr} {items : Array Value} (ks : List (Addr × NestedKey)) {Q : Value → Shared → Prop} (hh : A.handled = none) (hl : s.heap.IsTuple l items) (hit : items.toList = ks.map fun p => Value.ref p.1) (hk : ∀ p ∈ ks, NI s.heap p.2 p.1) (hb : ks.length ≤ 1000) (hu : A.units + 16 < cLine)
    (h : ∀ (h' : Heap) (tk : Nat) L es ep t, SN w h' s.heap.objs.size L es ep t → Gt ks ks.length L → (∀ b o, s.heap.get? b = some o → h'.get? b = some o) → Q (.ref s.heap.objs.size) { s with heap := h', toks := tk }) :
    wpAny (model P w) A (call (.type "set") [.ref l]) Q E s := by
  have sz : items.size = ks.length := by rw [← Array.length_toList, hit, List.length_map]
  obtain ⟨c0, tl0, hmro⟩ := F.called_set.mro
  have f1 := F.called_set.made
  have f2 := F.called_set.sub
  have f3 := F.called_set.notType
  have f4 := F.called_set.canCreate
  have f5 := F.typeCall_set_1 (.ref l)
  refine wpAny_call (codeAny_of_tree (show wpAny _ _ (callAny (.type "set") _) _ _ _ from wpAny_pure ⟨Code.quiet_builtin _ (by decide +kernel), codeAny_builtin F.entry_type_call ?_⟩))
  rw [Around.under_plain (weight_type_call_type "set" [.ref l] []) rfl]
  repeat (any_goals (first | assumption | wp_step))
  refine codeAny_mono (code_set_led1 (.ref l) (E := E) (Q₁ := fun ob s1 => ob = .ref s.heap.objs.size ∧ s1 = { s with heap := s.heap.push (newS w) }) ⟨rfl, rfl⟩) fun r s1 hr => ?_
  cases r with
  | error e => exact hr
  | ok fl =>
    cases fl with
    | ret ob =>
      obtain ⟨rfl, rfl⟩ := hr
      have hS : (s.heap.push (newS w)).get? s.heap.objs.size = some (newS w) := Heap.get?_push_size _ rfl
      have hT : Shared.TypeIs { s with heap := s.heap.push (newS w) } (.ref s.heap.objs.size) "set" := ⟨_, hS, rfl⟩
      have f6 := F.called_set.init.lookup
      have f7 := F.called_set.init.bind (.ref s.heap.objs.size)
      repeat (any_goals (first | assumption | wp_step))
      refine codeAny_mono (codeAny_call_builtin (R := wants (fun r s2 => r = .none ∧ ∃ h' tk L es ep t, s2 = { s with heap := h', toks := tk } ∧ SN w h' s.heap.objs.size L es ep t ∧ Gt ks ks.length L ∧ (∀ b o, s.heap.get? b = some o → h'.get? b = some o)) E) F.called_set.init.plain F.entry_set_init (check_set_init_1 hT ?_)) fun r2 s2 hr2 => ?_
      · obtain ⟨ol, hol, hcl, nl, hdl⟩ := hl
        obtain ⟨ocls, odict, odata, oslots⟩ := ol
        simp only at hcl hdl
        subst hcl; subst hdl
        have hol1 : (s.heap.push (newS w)).get? l = some { cls := .type "tuple", dict := odict, data := .seq items nl, slots := oslots } := Heap.get?_push_of_some _ hol
        have f8 := F.sub_tuple_set
        have f9 := F.sub_tuple_frozenset
        have f10 : (Value.type "tuple" == Value.type "dict") = false := by decide
        have hl1 : (s.heap.push (newS w)).IsTuple l items := ⟨_, hol1, rfl, nl, rfl⟩
        unfold Builtin.«set.__init__» noKeywords Builtin.Frozenset.updateFrom
        generalize hPI : pyIter = PI
        wp_walk
        subst hPI
        refine wpAny_pyIter_tuple hl1 (wpAny_bind (wpAny_runValue ?_))
        have hlS : l < s.heap.objs.size := Heap.lt_size hol
        have zz : (s.heap.push (newS w)).objs.size = s.heap.objs.size + 1 := Heap.size_push ..
        have q1 : l ≠ (s.heap.push (newS w)).objs.size := by rw [zz]; exact Nat.ne_of_lt (Nat.lt_succ_of_lt hlS)
        have q2 : s.heap.objs.size ∉ [(s.heap.push (newS w)).objs.size, l] := by
          rw [zz]; simp only [List.mem_cons, List.mem_singleton, List.not_mem_nil, or_false, not_or]
          exact ⟨Nat.ne_of_lt (Nat.lt_succ_self _), Nat.ne_of_gt hlS⟩
        have none_of : ∀ b, s.heap.objs.size ≤ b → s.heap.get? b = none := fun b hb => by
          cases q : s.heap.get? b with
          | none => rfl
          | some o => exact absurd (Nat.lt_of_lt_of_le (Heap.lt_size q) hb) (Nat.lt_irrefl _)
        refine sn_loop ((Walks.tuple (by simp [hh]) _ l q1 items).toS) s.heap.objs.size q2 ks sz hb (fun i v hv => ?_) s.heap hk (none_of _ (Nat.le_refl _)) (fun b hb => none_of b (by rw [List.mem_singleton.mp hb, zz]; exact Nat.le_succ _)) (by simp only [Around.in1_units]; omega) (items.size - 0) 0 _ (by omega) (Nat.zero_le _) ⟨⟨_, Heap.get?_push_size _ rfl, rfl, rfl⟩, (hl1.push _)⟩ (fun b o e => Heap.get?_push_of_some _ (Heap.get?_push_of_some _ e)) ⟨[], #[], 0, _, sn_new (Heap.get?_push_of_some _ hS), ⟨fun p hp => (by cases hp), fun p hp => (by simp at hp), Nat.le_refl _⟩⟩ ?_
        · have q : items.toList[i]? = some v := by rw [Array.getElem?_toList]; exact hv
          rw [hit, List.getElem?_map] at q
          obtain ⟨p, hp, e⟩ := Option.map_eq_some_iff.mp q
          exact ⟨p, hp, e.symm⟩
        · intro s' L es ep t hm hS' g' hkp
          obtain ⟨h', g2, d', tk', os'⟩ := s'
          obtain rfl : g2 = s.gens := hm.gens
          obtain rfl : d' = s.drawn := hm.drawn
          obtain rfl : os' = s.os := hm.os
          refine (show wpAny _ _ _ _ _ _ from wpAny_pure (show wpAny _ _ (ret Value.none) _ _ _ from ?_))
          rw [sz] at g'
          exact wpAny_pure ⟨rfl, h', tk', L, es, ep, t, rfl, hS', g', hkp⟩
      · cases r2 with
        | error e => exact hr2
        | ok fl2 =>
          cases fl2 with
          | ret r =>
            obtain ⟨rfl, h', tk, L, es, ep, t, rfl, hS', g', hk'⟩ := hr2
            repeat (any_goals (first | assumption | wp_step))
            exact h _ _ _ _ _ _ hS' g' hk'
          | _ => exact hr2.elim
    | _ => exact hr.elim
end
end DL

set_option Elab.async false
set_option linter.all false
set_option maxRecDepth 100000
set_option maxHeartbeats 4000000
namespace DL
open PySem PySem.Spec PyProof.Rows L2
/-! ### data as keys -/
mutual
def keyD : PyData → Option NestedKey
  | .none => some .none
  | .bool b => some (.num (if b = true then 1 else 0))
  | .int i => some (.num i)
  | .str x => some (.text x)
  | .tuple xs => (keyDs xs).map .tup
  | .list _ => none
  | .dict _ => none
def keyDs : List PyData → Option (List NestedKey)
  | [] => some []
  | d :: ds => match keyD d, keyDs ds with
    | some k, some ks => some (k :: ks)
    | _, _ => none
end
mutual
theorem reads_key {h : Heap} : ∀ (d : PyData) {v : Value} {as : List Addr} {k : NestedKey}, Reads h v d as → keyD d = some k → NestedIs h k v
  | .none, _, _, _, r, e => by unfold keyD at e; cases e; cases r; exact .none
  | .bool b, _, _, _, r, e => by unfold keyD at e; cases e; cases r; exact .bool rfl
  | .int i, _, _, _, r, e => by unfold keyD at e; cases e; cases r; exact .int _ _
  | .str x, _, _, _, r, e => by unfold keyD at e; cases e; cases r; exact .text _ _
  | .tuple xs, _, _, _, r, e => by
    unfold keyD at e
    cases q : keyDs xs with
    | none => rw [q] at e; cases e
    | some ks =>
      rw [q] at e
      cases e
      cases r with
      | tuple h1 h2 h3 h4 => exact .tup h1 h2 h3 (reads_keys xs h4 q)
  | .list _, _, _, _, _, e => by unfold keyD at e; cases e
  | .dict _, _, _, _, _, e => by unfold keyD at e; cases e
theorem reads_keys {h : Heap} : ∀ (ds : List PyData) {vs : List Value} {as : List Addr} {ks : List NestedKey}, ReadsAll h vs ds as → keyDs ds = some ks → NestedAll h ks vs
  | [], _, _, _, r, e => by unfold keyDs at e; cases e; cases r; exact .nil
  | d :: ds, _, _, _, r, e => by
    unfold keyDs at e
    split at e
    · rename_i k ks e1 e2
      cases e
      cases r with
      | cons r1 r2 => exact .cons (reads_key d r1 e1) (reads_keys ds r2 e2)
    · cases e
end
/-- may be put in a set, or stand as a dict's key -/
def keyOk (d : PyData) : Bool := match keyD d with
  | some (.tup ks) => decide ((NestedKey.tup ks).depth ≤ 8)
  | _ => false
theorem keyOk_ok {d : PyData} (h : keyOk d = true) : ∃ k, keyD d = some k ∧ k.depth ≤ 8 ∧ ∃ ks, k = .tup ks := by
  unfold keyOk at h
  split at h
  · rename_i ks e
    exact ⟨_, e, of_decide_eq_true h, ks, rfl⟩
  · cases h
def kOf (d : PyData) : NestedKey := (keyD d).getD .none
/-- a set of nested tuples, known to the abstract heap -/
structure SN0 (w : World) (h : Heap) (a : Addr) (L : List (Addr × NestedKey)) : Prop where
  ex : ∃ (es : Array (Int × Value)) (ep : Nat) (t : SetTable), (∃ o, h.get? a = some o ∧ o.ExactSet ∧ o.data = .set es ep t) ∧ es.toList = rowsN w L ∧ Tb t (L.map fun p => p.2.hash w) ∧ (L.map (·.2)).Nodup ∧
    (w.params.followText "set-order" = true ∨ t.led = true) ∧ L.length * 5 < t.mask * 3 ∧ L.length ≤ 1000
def SnO (w : World) (a : Addr) (L : List (Addr × NestedKey)) : HO := .ext fun h => SN0 w h a L
theorem SN.s0 {w : World} {h : Heap} {a : Addr} {L : List (Addr × NestedKey)} {es : Array (Int × Value)} {ep : Nat} {t : SetTable} (R : SN w h a L es ep t) : SN0 w h a L := ⟨es, ep, t, R.ob, R.rows, R.tab, R.nd, R.led, R.room, R.few⟩
theorem SN0.keep {w : World} {h h' : Heap} {a : Addr} {L : List (Addr × NestedKey)} (R : SN0 w h a L) (k : ∀ o, h.get? a = some o → h'.get? a = some o) : SN0 w h' a L := by
  obtain ⟨es, ep, t, ⟨o, ho, r⟩, q⟩ := R.ex
  exact ⟨es, ep, t, ⟨o, k o ho, r⟩, q⟩
theorem sno_new {P : Program} {w : World} {H : Hp} {h : Heap} {a : Addr} {L : List (Addr × NestedKey)} (R : SN0 w h a L) : ObjOk P w H h a (SnO w a L) := by
  have ⟨es, ep, t, ⟨o, ho, r⟩, q⟩ := R.ex
  exact ⟨R, ⟨o, ho⟩, fun h1 h2 p k => SN0.keep p k⟩
theorem refs_of {α : Type} {f : α → Addr} : ∀ {bs : List α} {us : List Value}, Vals (bs.map fun p => V.ref (f p)) us → us = bs.map fun p => Value.ref (f p)
  | [], _, .nil => rfl
  | p :: bs, _, .cons r t => by
    cases r
    rw [refs_of t]
    rfl
theorem vals_refs {α : Type} {f : α → Addr} : ∀ (bs : List α), Vals (bs.map fun p => V.ref (f p)) (bs.map fun p => Value.ref (f p))
  | [] => .nil
  | p :: bs => .cons rfl (vals_refs bs)
theorem perm_back {α β : Type} {f : α → β} : ∀ {l : List β} {m : List β}, l.Perm m → ∀ {cs : List α}, cs.map f = m → ∃ cs' : List α, cs'.Perm cs ∧ cs'.map f = l := by
  intro l m p
  induction p with
  | nil =>
    intro cs e
    exact ⟨cs, .refl _, e⟩
  | @cons x l m p ih =>
    intro cs e
    cases cs with
    | nil => cases e
    | cons c cs =>
      rw [List.map_cons] at e
      obtain ⟨e1, e2⟩ := List.cons.inj e
      obtain ⟨cs', h1, h2⟩ := ih e2
      exact ⟨c :: cs', h1.cons c, by rw [List.map_cons, h2, e1]⟩
  | @swap x y l =>
    intro cs e
    match cs, e with
    | c :: d :: cs, e =>
      rw [List.map_cons, List.map_cons] at e
      obtain ⟨e1, e2⟩ := List.cons.inj e
      obtain ⟨e2, e3⟩ := List.cons.inj e2
      exact ⟨d :: c :: cs, .swap _ _ _, by rw [List.map_cons, List.map_cons, e1, e2, e3]⟩
  | @trans l m n p q ih1 ih2 =>
    intro cs e
    obtain ⟨c2, h1, h2⟩ := ih2 e
    obtain ⟨c1, h3, h4⟩ := ih1 h2
    exact ⟨c1, h3.trans h1, h4⟩
section
variable {X : Cx}
/-- set(xs), xs a list of nested tuples -/
def rSetK (X : Cx) : List V → Hp → VK → Prop := fun xs H Q => ∃ (l : Addr) (bs : List (Addr × PyData)), xs = [V.ref l] ∧ (SqL X.K H l (bs.map fun b => V.ref b.1) ∨ SqT X.K H l (bs.map fun b => V.ref b.1)) ∧ (∀ b ∈ bs, Dp X.K H (V.ref b.1) b.2 ∧ keyOk b.2 = true) ∧ bs.length ≤ 1000 ∧
  ∀ a L, H a = none → (∀ p ∈ L, ∃ b ∈ bs, b.1 = p.1 ∧ kOf b.2 = p.2) → (∀ b ∈ bs, kOf b.2 ∈ L.map (·.2)) → (L.map (·.2)).Nodup → Q (.ref a) (upd H a (SnO X.w a L))
theorem dp_ni {pins : List (Addr × Obj)} {σ : L2.St} {H : Hp} {s : Shared} (I : Inv X pins σ H s) {a : Addr} {d : PyData} (hd : Dp X.K H (V.ref a) d) (hk : keyOk d = true) : NI s.heap (kOf d) a := by
  obtain ⟨as, r⟩ := Dp.reads I d (V.ref a) (.ref a) hd rfl
  obtain ⟨k, e, h8, _⟩ := keyOk_ok hk
  unfold kOf
  rw [e]
  exact ⟨reads_key d r e, h8⟩
theorem cr_setK (hc : X.calm = true) (hu : X.A.units + 64 < cLine) : CallR X (.type "set") (rSetK X) := by
  intro pins s σ H xs us Q I r h
  obtain ⟨l, bs, rfl, hl, hk, hf, q⟩ := h
  rw [Vals.ref1 r]
  have hn : H s.heap.objs.size = none := I.hok.fresh (Nat.le_refl _)
  have nis : ∀ p ∈ bs.map (fun b => (b.1, kOf b.2)), NI s.heap p.2 p.1 := fun p hp => by
    obtain ⟨b, hb, rfl⟩ := List.mem_map.mp hp
    exact dp_ni I (hk b hb).1 (hk b hb).2
  have fin : ∀ (h' : Heap) (tk : Nat) L es ep t, SN X.w h' s.heap.objs.size L es ep t → Gt (bs.map fun b => (b.1, kOf b.2)) (bs.map fun b => (b.1, kOf b.2)).length L → (∀ b o, s.heap.get? b = some o → h'.get? b = some o) → EP X pins σ Q (.ref s.heap.objs.size) { s with heap := h', toks := tk } := fun h' tk L es ep t R g k => by
    refine ⟨.ref s.heap.objs.size, _, I.laid (t' := tk) k (Nat.le_refl _) (sno_new R.s0), rfl, q _ L hn (fun p hp => ?_) (fun b hb => ?_) R.nd⟩
    · obtain ⟨b, hb, e⟩ := List.mem_map.mp (List.mem_of_mem_take (g.sub p hp))
      rw [← e]
      exact ⟨b, hb, rfl, rfl⟩
    · exact g.all (b.1, kOf b.2) (by rw [List.take_length]; exact List.mem_map.mpr ⟨b, hb, rfl⟩)
  rcases hl with hl | hl
  · obtain ⟨its, rv, pl, hz⟩ := I.list hl
    exact set_of_keys (P := X.prog) (w := X.w) (bs.map fun b => (b.1, kOf b.2)) (I.ok.hd hc) pl.isList (by rw [List.map_map]; exact refs_of rv) nis (by rw [List.length_map]; exact hf) (by omega) fin
  · obtain ⟨its, rv, pl, hz⟩ := I.tuple hl
    exact set_of_keysT (P := X.prog) (w := X.w) (bs.map fun b => (b.1, kOf b.2)) (I.ok.hd hc) pl (by rw [List.map_map]; exact refs_of rv) nis (by rw [List.length_map]; exact hf) (by omega) fin
/-- the order of data -/
abbrev leK (b c : Addr × PyData) : Bool := PySem.W.sortLe (PyProof.Rows.listOrd PyProof.Rows.itemOrd) false (fun b : Addr × PyData => PySem.W.keyToks b.2) b c
def rSortK (X : Cx) : List V → Hp → VK → Prop := fun xs H Q => ∃ (a : Addr) (L : List (Addr × NestedKey)) (cs : List (Addr × PyData)), xs = [V.ref a] ∧ H a = some (SnO X.w a L) ∧ cs.map (·.1) = L.map (·.1) ∧ (∀ c ∈ cs, Dp X.K H (V.ref c.1) c.2) ∧
  PySem.W.AllAlike (cs.map (·.2)) ∧ SrtOk (cs.map (·.2)) ∧ (∀ d ∈ cs.map (·.2), d.depth ≤ 60) ∧
  ∀ (cs' : List (Addr × PyData)) (p : Addr), cs'.Perm cs → H p = none → Q (.ref p) (upd H p (.lst ((cs'.mergeSort leK).map fun c => V.ref c.1)))
theorem each_refs {h : Heap} : ∀ {cs : List (Addr × PyData)}, (∀ c ∈ cs, ∃ as, Reads h (.ref c.1) c.2 as) → PySem.W.EachIs (fun u (c : Addr × PyData) => u = Value.ref c.1 ∧ ∃ as, Reads h u c.2 as) (cs.map fun c => Value.ref c.1) cs
  | [], _ => .nil
  | c :: cs, hh => .cons ⟨rfl, hh c List.mem_cons_self⟩ (each_refs fun d hd => hh d (List.mem_cons_of_mem _ hd))
theorem each_map {α β γ : Type} {R : α → β → Prop} {S : α → γ → Prop} {g : β → γ} (h : ∀ a b, R a b → S a (g b)) : ∀ {l : List α} {m : List β}, PySem.W.EachIs R l m → PySem.W.EachIs S l (m.map g)
  | _, _, .nil => .nil
  | _, _, .cons r t => .cons (h _ _ r) (each_map h t)
theorem each_eq {cs : List (Addr × PyData)} {vs : List Value} (h : PySem.W.EachIs (fun u (c : Addr × PyData) => u = Value.ref c.1) vs cs) : vs = cs.map fun c => Value.ref c.1 := by
  induction h with
  | nil => rfl
  | cons r _ ih => rw [List.map_cons, ← r, ih]
theorem cr_sortK (hc : X.calm = true) (hu : X.A.units + 64 < cLine) : CallR X (.builtin "sorted") (rSortK X) := by
  intro pins s σ H xs us Q I r h
  obtain ⟨a, L, cs, rfl, ha, hcl, hd, al, so, dp, q⟩ := h
  rw [Vals.ref1 r]
  have R0 : SN0 X.w s.heap a L := (I.hok a _ ha).1
  obtain ⟨es, ep, t, ⟨o, ho, hex, hdd⟩, rows, tab, nd, led, room, few⟩ := R0.ex
  have hsz : es.size = L.length := rows_size rows
  have hfit : t.fits es.size = true := tb_fits tab (by rw [hsz, List.length_map]) (by rw [List.length_map]; omega)
  refine Calls.call_function_entry PyProof.Rows.kind_sorted PyProof.Rows.plain_sorted PyProof.Rows.entry_sorted (PyProof.Rows.args_sorted1 _) ?_
  unfold Builtin.«sorted»
  refine wpAny_bind (m := checkCount "sorted" 1 1 _) (wpAny_pure (wpAny_bind (collect_set (A := X.A.in1) (I.ok.hd hc) ⟨o, ho, hex.1, hdd⟩ hfit (by unfold scanBound; omega) tab.ris led fun s1 vs k1 hz g1 o1 pm => ?_)))
  have eL : es.toList.map (·.2) = cs.map fun c => Value.ref c.1 := by
    rw [rows, List.map_map]
    have z := congrArg (List.map Value.ref) hcl
    rw [List.map_map, List.map_map] at z
    exact z.symm
  obtain ⟨cs', pc, ev⟩ := perm_back pm eL.symm
  subst ev
  have I1 : Inv X pins σ H s1 := I.call' (ch := []) o1 (Un.kept k1) (I.hok.kept k1) (by rw [g1]; exact I.bare) (fun _ z => nomatch z)
  have cl : cs'.length ≤ 1000 := by
    rw [pc.length_eq]
    have z := congrArg List.length hcl
    rw [List.length_map, List.length_map] at z
    omega
  have al' : PySem.W.AllAlike (cs'.map (·.2)) := fun d hd e he => al d ((pc.map (·.2)).mem_iff.mp hd) e ((pc.map (·.2)).mem_iff.mp he)
  have so' : SrtOk (cs'.map (·.2)) := so.imp (fun z d hd => z d ((pc.map (·.2)).mem_iff.mp hd)) fun z d hd => z d ((pc.map (·.2)).mem_iff.mp hd)
  refine wpAny_bind (wpAny_newList ?_ (by rw [List.length_map, sizeLine_eq]; omega))
  have hoL : (s1.heap.push (seqObj "list" (cs'.map fun c => Value.ref c.1).toArray 0)).get? s1.heap.objs.size = some (seqObj "list" (cs'.map fun c => Value.ref c.1).toArray 0) := Heap.get?_push_size _ rfl
  have keep : ∀ b u, s1.heap.get? b = some u → (PySem.W.sortingHeap (s1.heap.push (seqObj "list" (cs'.map fun c => Value.ref c.1).toArray 0)) s1.heap.objs.size (cs'.map fun c => Value.ref c.1)).get? b = some u := fun b u e =>
    PySem.W.sortingHeap_old (Nat.ne_of_lt (Heap.lt_size e)) (Heap.get?_push_of_some _ e)
  have e1 := each_refs (h := PySem.W.sortingHeap (s1.heap.push (seqObj "list" (cs'.map fun c => Value.ref c.1).toArray 0)) s1.heap.objs.size (cs'.map fun c => Value.ref c.1)) (cs := cs') fun c hcm => by
    obtain ⟨as, ra⟩ := Dp.reads I1 c.2 (V.ref c.1) (.ref c.1) (hd c (pc.mem_iff.mp hcm)) rfl
    exact ⟨as, PyProof.Rows.Reads.keeps keep ra⟩
  have S := sorts_alike (prog := X.prog) (w := X.w) (A := X.A.in1.in1) (s := { s1 with heap := PySem.W.sortingHeap (s1.heap.push (seqObj "list" (cs'.map fun c => Value.ref c.1).toArray 0)) s1.heap.objs.size (cs'.map fun c => Value.ref c.1) })
    (each_map (fun _ _ z => z.2) e1) al' so' (fun d hm => by
      have := dp d ((pc.map (·.2)).mem_iff.mp hm)
      show X.A.units + 1 + 1 + d.depth < cLine
      omega)
  refine wpAny_bind (wpAny_holding (wpAny_call_entry PyProof.Rows.slot_list_sort ⟨_, hoL, rfl⟩ PyProof.Rows.entry_list_sort
    (PySem.W.list_sort_vals (s := { s1 with heap := s1.heap.push (seqObj "list" (cs'.map fun c => Value.ref c.1).toArray 0) }) hoL S (by rw [List.length_map, sizeLine_eq]; omega) ⟨_, rfl, ?_⟩) (PyProof.Rows.args_list_sort _)))
  have key : PySem.W.EachIs (fun v (b : Addr × PyData) => (PySem.W.dataKind (PySem.W.sortingHeap (s1.heap.push (seqObj "list" (cs'.map fun c => Value.ref c.1).toArray 0)) s1.heap.objs.size (cs'.map fun c => Value.ref c.1)) (cs'.map (·.2))).keyOf v = some (PySem.W.keyToks b.2)) (cs'.map fun c => Value.ref c.1) cs' :=
    (PySem.W.each_mem e1).mono fun u b z => by
      obtain ⟨⟨_, as, ra⟩, hb⟩ := z
      exact PySem.W.dataKind_some al' (List.mem_map.mpr ⟨b, hb, rfl⟩) ra
  have out := PySem.W.sortVals_each (κ := PySem.W.dataKind (PySem.W.sortingHeap (s1.heap.push (seqObj "list" (cs'.map fun c => Value.ref c.1).toArray 0)) s1.heap.objs.size (cs'.map fun c => Value.ref c.1)) (cs'.map (·.2))) (rev := false) (fun b : Addr × PyData => PySem.W.keyToks b.2) (e1.mono fun u b h => h.1) key
  have eo := each_eq out
  rw [eo]
  obtain ⟨e2, he2⟩ := PyProof.Rows.sortedHeap_at (vs := cs'.map fun c => Value.ref c.1) (out := (((cs'.mergeSort leK).map fun c => Value.ref c.1)).toArray) hoL
  have fr : H s1.heap.objs.size = none := I1.hok.fresh (Nat.le_refl _)
  have yl : ((cs'.mergeSort leK).map fun c => V.ref c.1).length ≤ sizeLine := by rw [List.length_map, List.length_mergeSort, sizeLine_eq]; omega
  refine wpAny_pure ⟨_, rfl, .ref s1.heap.objs.size, _, I1.laid (t' := s1.toks) (fun b u e => ?_) (Nat.le_refl _) (show ObjOk X.prog X.w _ _ _ (.lst ((cs'.mergeSort leK).map fun c => V.ref c.1)) from ⟨yl, _, e2, vals_refs _, he2⟩), rfl, q cs' _ pc fr⟩
  have hb : b < s1.heap.objs.size := Heap.lt_size e
  rw [PyProof.Rows.sortedHeap_old (Nat.ne_of_lt hb) (by rw [size_push']; exact Nat.lt_succ_of_lt hb)]
  exact Heap.get?_push_of_some _ e
/-- len(s) -/
def rLenK (X : Cx) : List V → Hp → VK → Prop := fun xs H Q => ∃ (a : Addr) (L : List (Addr × NestedKey)), xs = [V.ref a] ∧ H a = some (SnO X.w a L) ∧ Q (.int L.length) H
theorem cr_lenK : CallR X (.builtin "len") (rLenK X) := by
  intro pins s σ H xs us Q I r h
  obtain ⟨a, L, rfl, ha, q⟩ := h
  rw [Vals.ref1 r]
  have R0 : SN0 X.w s.heap a L := (I.hok a _ ha).1
  obtain ⟨es, ep, t, ⟨o, ho, hex, hdd⟩, rows, tab, nd, led, room, few⟩ := R0.ex
  have hsz : es.size = L.length := rows_size rows
  have hfit : t.fits es.size = true := tb_fits tab (by rw [hsz, List.length_map]) (by rw [List.length_map]; omega)
  exact call_len_set ho hex hdd hfit (by omega) ⟨.int L.length, H, I.tok _, ⟨_, by rw [hsz]⟩, q⟩
def rLenTx (X : Cx) : List V → Hp → VK → Prop := fun xs H Q => ∃ (a : Addr) (S : Str → Bool) (n : Nat), xs = [V.ref a] ∧ H a = some (SsO X.prog X.w a S n) ∧ ∀ ys : List Str, ys.Nodup → (∀ k, k ∈ ys ↔ S k = true) → ys.length = n → Q (.int n) H
theorem cr_lenTx : CallR X (.builtin "len") (rLenTx X) := by
  intro pins s σ H xs us Q I r h
  obtain ⟨a, S, n, rfl, ha, q⟩ := h
  rw [Vals.ref1 r]
  obtain ⟨o, es, ep, t, ho, hex, hd, g, nd, hm, hb, hf, hn, hr, hl⟩ := sso_get I ha
  exact call_len_set ho hex hd hf (by have := fits_of_scanBound hb; unfold scanBound at hb; omega) ⟨.int n, H, I.tok _, ⟨_, by rw [hn]⟩, q (es.toList.map txtOf) nd (fun k => (hm k).symm) (by rw [List.length_map, Array.length_toList, hn])⟩
end
end DL

set_option Elab.async false
set_option linter.all false
set_option maxRecDepth 100000
set_option maxHeartbeats 1000000
namespace DL
open PySem PySem.Spec L2
/-! ### the order of data, plainly -/
theorem leD_total (a b : U) : leD a b = true ∨ leD b a = true := by
  unfold leD
  cases h1 : PySem.W.dataLt (dOf b) (dOf a) with
  | false => exact .inl rfl
  | true =>
    cases h2 : PySem.W.dataLt (dOf a) (dOf b) with
    | false => exact .inr rfl
    | true =>
      exfalso
      have z := (PySem.W.sortLe_total (PyProof.Rows.listOrd PyProof.Rows.itemOrd) false (fun u : U => PySem.W.keyToks (dOf u))).total a b
      have e1 : PySem.W.sortLe (PyProof.Rows.listOrd PyProof.Rows.itemOrd) false (fun u : U => PySem.W.keyToks (dOf u)) a b = leD a b := rfl
      have e2 : PySem.W.sortLe (PyProof.Rows.listOrd PyProof.Rows.itemOrd) false (fun u : U => PySem.W.keyToks (dOf u)) b a = leD b a := rfl
      rw [e1, e2] at z
      unfold leD at z
      rw [h1, h2] at z
      simp at z
theorem leD_trans {a b c : U} (h1 : leD a b = true) (h2 : leD b c = true) : leD a c = true :=
  (PySem.W.sortLe_total (PyProof.Rows.listOrd PyProof.Rows.itemOrd) false (fun u : U => PySem.W.keyToks (dOf u))).trans a b c h1 h2
theorem leD_toks {a b : U} (h1 : leD a b = true) (h2 : leD b a = true) : PySem.W.keyToks (dOf a) = PySem.W.keyToks (dOf b) := by
  unfold leD at h1 h2
  rw [Bool.not_eq_true'] at h1 h2
  exact PyProof.Rows.lex_total _ _ h2 h1
theorem toks_eq {x y : PyData} (h : PySem.W.alike x y = true) (e : PySem.W.keyToks x = PySem.W.keyToks y) : PyData.eqv x y = true := by
  cases q : PyData.eqv x y with
  | true => rfl
  | false =>
    exfalso
    have z := (PySem.W.toks_eqv x y h).2 q
    have z1 := z [] [.inl 0]
    have z2 := z [.inl 0] []
    rw [e] at z1 z2
    rw [PySem.W.lex_pre] at z1 z2
    rw [← z2] at z1
    revert z1
    decide
mutual
theorem eqv_eq : ∀ (x y : PyData) {k : NestedKey}, PySem.W.alike x y = true → PyData.eqv x y = true → keyD x = some k → x = y
  | .none, y, _, h, _, _ => by cases y <;> first | rfl | (simp [PySem.W.alike] at h)
  | .bool a, y, _, h, e, _ => by cases y <;> first | (simp [PySem.W.alike] at h; done) | (simp [PyData.eqv] at e; rw [e])
  | .int a, y, _, h, e, _ => by cases y <;> first | (simp [PySem.W.alike] at h; done) | (simp [PyData.eqv] at e; rw [e])
  | .str a, y, _, h, e, _ => by cases y <;> first | (simp [PySem.W.alike] at h; done) | (simp [PyData.eqv] at e; rw [e])
  | .tuple xs, y, k, h, e, q => by
    cases y with
    | tuple ys =>
      unfold keyD at q
      cases q2 : keyDs xs with
      | none => rw [q2] at q; cases q
      | some ks => rw [eqv_eqs xs ys (by simpa [PySem.W.alike] using h) (by simpa [PyData.eqv] using e) q2]
    | _ => simp [PySem.W.alike] at h
  | .list _, _, _, _, _, q => by unfold keyD at q; cases q
  | .dict _, _, _, _, _, q => by unfold keyD at q; cases q
theorem eqv_eqs : ∀ (xs ys : List PyData) {ks : List NestedKey}, PySem.W.alikeAll xs ys = true → PyData.eqvAll xs ys = true → keyDs xs = some ks → xs = ys
  | [], [], _, _, _, _ => rfl
  | [], _ :: _, _, _, e, _ => by simp [PyData.eqvAll] at e
  | _ :: _, [], _, _, e, _ => by simp [PyData.eqvAll] at e
  | x :: xs, y :: ys, _, h, e, q => by
    rw [PySem.W.eqv_all_cons, Bool.and_eq_true] at e
    unfold keyDs at q
    split at q
    · rename_i k ks q1 q2
      rw [eqv_eq x y (PySem.W.alike_all_cons h).1 e.1 q1, eqv_eqs xs ys (PySem.W.alike_all_cons h).2 e.2 q2]
    · cases q
end
mutual
theorem toD_inj : ∀ (u u' : U) {d : PyData} {k : NestedKey}, toD u = some d → toD u' = some d → keyD d = some k → u = u'
  | .non, u', d, _, h1, h2, _ => by
    unfold toD at h1; cases h1
    cases u' <;> (unfold toD at h2) <;> first | rfl | (cases h2) | (simp at h2)
  | .bl b, u', d, _, h1, h2, _ => by
    unfold toD at h1; cases h1
    cases u' <;> (unfold toD at h2) <;> first | (cases h2; rfl) | (cases h2) | (simp at h2)
  | .int b, u', d, _, h1, h2, _ => by
    unfold toD at h1; cases h1
    cases u' <;> (unfold toD at h2) <;> first | (cases h2; rfl) | (cases h2) | (simp at h2)
  | .str b, u', d, _, h1, h2, _ => by
    unfold toD at h1; cases h1
    cases u' <;> (unfold toD at h2) <;> first | (cases h2; rfl) | (cases h2) | (simp at h2)
  | .tup us, u', d, k, h1, h2, q => by
    unfold toD at h1
    obtain ⟨ds, e1, rfl⟩ := Option.map_eq_some_iff.mp h1
    cases u' with
    | tup us' =>
      unfold toD at h2
      obtain ⟨ds', e2, e3⟩ := Option.map_eq_some_iff.mp h2
      cases e3
      unfold keyD at q
      obtain ⟨ks, q1, _⟩ := Option.map_eq_some_iff.mp q
      rw [toDs_inj us us' e1 e2 q1]
    | lst us' => unfold toD at h2; obtain ⟨ds', e2, e3⟩ := Option.map_eq_some_iff.mp h2; cases e3
    | frz us' => unfold toD at h2; obtain ⟨ds', e2, e3⟩ := Option.map_eq_some_iff.mp h2; cases e3
    | _ => unfold toD at h2; cases h2
  | .lst us, u', d, k, h1, h2, q => by
    unfold toD at h1
    obtain ⟨ds, e1, rfl⟩ := Option.map_eq_some_iff.mp h1
    unfold keyD at q; cases q
  | .frz us, u', d, k, h1, h2, q => by
    unfold toD at h1
    obtain ⟨ds, e1, rfl⟩ := Option.map_eq_some_iff.mp h1
    unfold keyD at q; cases q
  | .dic _ _, _, _, _, h1, _, _ => by unfold toD at h1; cases h1
  | .loc _, _, _, _, h1, _, _ => by unfold toD at h1; cases h1
  | .ty _, _, _, _, h1, _, _ => by unfold toD at h1; cases h1
  | .exc _ _ _, _, _, _, h1, _, _ => by unfold toD at h1; cases h1
  | .cl _, _, _, _, h1, _, _ => by unfold toD at h1; cases h1
theorem toDs_inj : ∀ (us us' : List U) {ds : List PyData} {ks : List NestedKey}, toDs us = some ds → toDs us' = some ds → keyDs ds = some ks → us = us'
  | [], us', ds, _, h1, h2, _ => by
    unfold toDs at h1; cases h1
    cases us' with
    | nil => rfl
    | cons u us => unfold toDs at h2; split at h2 <;> cases h2
  | u :: us, us', ds, ks, h1, h2, q => by
    unfold toDs at h1
    split at h1
    · rename_i d ds1 e1 e2
      cases h1
      cases us' with
      | nil => unfold toDs at h2; cases h2
      | cons u' us' =>
        unfold toDs at h2
        split at h2
        · rename_i d' ds' f1 f2
          cases h2
          unfold keyDs at q
          split at q
          · rename_i k ks q1 q2
            rw [toD_inj u u' e1 f1 q1, toDs_inj us us' e2 f2 q2]
          · cases q
        · cases h2
    · cases h1
end
theorem leD_anti {a b : U} {d e : PyData} (ha : toD a = some d) (hb : toD b = some e) (hk : keyOk d = true) (al : PySem.W.alike d e = true) (h1 : leD a b = true) (h2 : leD b a = true) : a = b := by
  have t := leD_toks h1 h2
  unfold dOf at t
  rw [ha, hb] at t
  obtain ⟨k, q, _⟩ := keyOk_ok hk
  have := eqv_eq d e al (toks_eq al t) q
  subst this
  exact toD_inj a b ha hb q
mutual
theorem key_data : ∀ (x y : PyData) {k : NestedKey}, PySem.W.alike x y = true → keyD x = some k → keyD y = some k → x = y
  | .none, y, _, h, _, _ => by cases y <;> first | rfl | (simp [PySem.W.alike] at h)
  | .bool a, y, _, h, e, q => by
    cases y <;> first | (simp [PySem.W.alike] at h; done) | skip
    rename_i b
    unfold keyD at e q
    cases e
    cases a <;> cases b <;> first | rfl | (simp at q)
  | .int a, y, _, h, e, q => by
    cases y <;> first | (simp [PySem.W.alike] at h; done) | skip
    unfold keyD at e q
    cases e
    cases q
    rfl
  | .str a, y, _, h, e, q => by
    cases y <;> first | (simp [PySem.W.alike] at h; done) | skip
    unfold keyD at e q
    cases e
    cases q
    rfl
  | .tuple xs, y, k, h, e, q => by
    cases y with
    | tuple ys =>
      unfold keyD at e q
      obtain ⟨ks, e1, rfl⟩ := Option.map_eq_some_iff.mp e
      obtain ⟨ks', e2, e3⟩ := Option.map_eq_some_iff.mp q
      cases e3
      rw [keys_data xs ys (by simpa [PySem.W.alike] using h) e1 e2]
    | _ => simp [PySem.W.alike] at h
  | .list _, _, _, _, e, _ => by unfold keyD at e; cases e
  | .dict _, _, _, _, e, _ => by unfold keyD at e; cases e
theorem keys_data : ∀ (xs ys : List PyData) {ks : List NestedKey}, PySem.W.alikeAll xs ys = true → keyDs xs = some ks → keyDs ys = some ks → xs = ys
  | [], [], _, _, _, _ => rfl
  | [], y :: ys, _, _, e, q => by
    unfold keyDs at e q
    cases e
    split at q <;> cases q
  | x :: xs, [], _, _, e, q => by
    unfold keyDs at e q
    cases q
    split at e <;> cases e
  | x :: xs, y :: ys, _, h, e, q => by
    unfold keyDs at e q
    split at e
    · rename_i k ks q1 q2
      cases e
      split at q
      · rename_i k' ks' p1 p2
        cases q
        rw [key_data x y (PySem.W.alike_all_cons h).1 q1 p1, keys_data xs ys (PySem.W.alike_all_cons h).2 q2 p2]
      · cases q
    · cases e
end
theorem keyData_eq {a b : U} {d e : PyData} (ha : toD a = some d) (hb : toD b = some e) (hk : keyOk d = true) (hk' : keyOk e = true) (al : PySem.W.alike d e = true) (h : kOf d = kOf e) : a = b := by
  obtain ⟨k, q, _⟩ := keyOk_ok hk
  obtain ⟨k', q', _⟩ := keyOk_ok hk'
  unfold kOf at h
  rw [q, q'] at h
  have h : k = k' := h
  subst h
  have := key_data d e al q q'
  subst this
  exact toD_inj a b ha hb q
theorem sortD_perm (us : List U) : (sortD us).Perm us := List.mergeSort_perm us leD
theorem sortD_pw (us : List U) : (sortD us).Pairwise fun a b => leD a b = true := List.pairwise_mergeSort (le := leD) (fun _ _ _ h1 h2 => leD_trans h1 h2) (fun a b => by simpa [Bool.or_eq_true] using leD_total a b) us
/-- sorted and alike: one list -/
theorem pw_uniqueD : ∀ {l m : List U}, l.Perm m → (∀ a ∈ l, ∀ b ∈ l, leD a b = true → leD b a = true → a = b) → l.Pairwise (fun a b => leD a b = true) → m.Pairwise (fun a b => leD a b = true) → l = m
  | [], m, p, _, _, _ => p.nil_eq
  | x :: l, [], p, _, _, _ => absurd p.symm.nil_eq (by intro h; cases h)
  | x :: l, y :: m, p, an, h1, h2 => by
    have hx : x ∈ y :: m := p.mem_iff.mp List.mem_cons_self
    have hy : y ∈ x :: l := p.mem_iff.mpr List.mem_cons_self
    have e : x = y := by
      rcases List.mem_cons.mp hx with e | hx
      · exact e
      · rcases List.mem_cons.mp hy with e | hy'
        · exact e.symm
        · exact an x List.mem_cons_self y hy ((List.pairwise_cons.mp h1).1 y hy') ((List.pairwise_cons.mp h2).1 x hx)
    subst e
    rw [pw_uniqueD (List.Perm.cons_inv p) (fun a ha b hb => an a (List.mem_cons_of_mem _ ha) b (List.mem_cons_of_mem _ hb)) (List.pairwise_cons.mp h1).2 (List.pairwise_cons.mp h2).2]
theorem sortD_unique {l m : List U} (p : l.Perm m) (an : ∀ a ∈ l, ∀ b ∈ l, leD a b = true → leD b a = true → a = b) : sortD l = sortD m := by
  refine pw_uniqueD ((sortD_perm l).trans (p.trans (sortD_perm m).symm)) (fun a ha b hb => an a ((sortD_perm l).mem_iff.mp ha) b ((sortD_perm l).mem_iff.mp hb)) (sortD_pw l) (sortD_pw m)
/-! ### unlike ones -/
def keyV (u : U) : NestedKey := kOf (dOf u)
def nubK : List U → List U
  | [] => []
  | x :: r => if r.any (fun y => decide (keyV y = keyV x)) then nubK r else x :: nubK r
theorem nubK_sub {x : U} : ∀ {l : List U}, x ∈ nubK l → x ∈ l
  | [], h => h
  | y :: r, h => by
    unfold nubK at h
    split at h
    · exact List.mem_cons_of_mem _ (nubK_sub h)
    · rcases List.mem_cons.mp h with e | h
      · rw [e]; exact List.mem_cons_self
      · exact List.mem_cons_of_mem _ (nubK_sub h)
theorem nubK_key {x : U} : ∀ {l : List U}, x ∈ l → keyV x ∈ (nubK l).map keyV
  | y :: r, h => by
    unfold nubK
    split
    · rename_i c
      obtain ⟨z, hz, e⟩ := List.any_eq_true.mp c
      have e := of_decide_eq_true e
      rcases List.mem_cons.mp h with q | h
      · rw [q, ← e]; exact nubK_key hz
      · exact nubK_key h
    · rcases List.mem_cons.mp h with q | h
      · rw [q]; exact List.mem_cons_self
      · exact List.mem_cons_of_mem _ (nubK_key h)
theorem nubK_nodup : ∀ l : List U, ((nubK l).map keyV).Nodup
  | [] => List.nodup_nil
  | y :: r => by
    unfold nubK
    split
    · exact nubK_nodup r
    · rename_i c
      refine List.nodup_cons.mpr ⟨fun q => c ?_, nubK_nodup r⟩
      obtain ⟨z, hz, e⟩ := List.mem_map.mp q
      exact List.any_eq_true.mpr ⟨z, nubK_sub hz, decide_eq_true e⟩
theorem key_nodup {l : List U} (h : (l.map keyV).Nodup) : l.Nodup := List.Pairwise.of_map keyV (fun _ _ hne e => hne (congrArg keyV e)) h
end DL

set_option Elab.async false
set_option linter.all false
set_option maxRecDepth 100000
set_option maxHeartbeats 1000000
namespace DL
open PySem PySem.Spec L2
/-- the first, or where it is none the second -/
def alt {α : Type} (a b : R α) : R α := match a with
  | .bad => b
  | .ok x S => .ok x S
  | .exc x S => .exc x S
theorem pst_alt {α : Type} {a b : R α} {P : α → Sto → Prop} {E : Exc → Sto → Prop} (h : Pst (alt a b) P E) : Pst a P E ∨ Pst b P E := by
  cases a with
  | bad => exact .inr h
  | ok x S => exact .inl h
  | exc x S => exact .inl h
section
variable {X : Cx} {Wx : WX}
theorem CallSimL.alt {f : Value} {g1 g2 : List U → Sto → R (List U)} (h1 : CallSimL X f g1) (h2 : CallSimL X f g2) : CallSimL X f (fun us S => DL.alt (g1 us S) (g2 us S)) := by
  obtain ⟨r1, c1, k1⟩ := h1
  obtain ⟨r2, c2, k2⟩ := h2
  refine ⟨_, c1.or c2, fun w us vs Q E s rs h => ?_⟩
  rcases pst_alt h with q | q
  · exact .inl (k1 w us vs Q E s rs q)
  · exact .inr (k2 w us vs Q E s rs q)
/-- sorted(xs): of texts, of a dict of texts, of alike data -/
def sortedA (us : List U) (S : Sto) : R (List U) := alt (sortedC us S) (sortedDC us S)
theorem cl_sortedA (hc : X.calm = true) (hu : X.A.units + 64 < cLine) : CallSimL X (.builtin "sorted") sortedA := (cl_sorted hc).alt (cl_sortD hu)
/-! ### sorted(set(xs)), len(set(xs)) -/
def sortSetDC (us : List U) (S : Sto) : R (List U) := match us with
  | [u] => match seqOf u S with
    | some xs => match toDs xs with
      | some ds => guard (sortOk ds && ds.all keyOk && decide (ds.length ≤ 1000)) (.ok (sortD (nubK xs)) S)
      | none => .bad
    | none => .bad
  | _ => .bad
def sortSetA (us : List U) (S : Sto) : R (List U) := alt (sortSetC us S) (sortSetDC us S)
def lenSetC (us : List U) (S : Sto) : R U := match us with
  | [u] => match (DL.listOf u S).bind strsOf with
    | some zs => guard (decide (zs.length ≤ 1000)) (.ok (.int (nubT zs).length) S)
    | none => .bad
  | _ => .bad
def lenSetDC (us : List U) (S : Sto) : R U := match us with
  | [u] => match seqOf u S with
    | some xs => match toDs xs with
      | some ds => guard (ds.all keyOk && decide (ds.length ≤ 1000)) (.ok (.int (nubK xs).length) S)
      | none => .bad
    | none => .bad
  | _ => .bad
def lenSetA (us : List U) (S : Sto) : R U := alt (lenSetC us S) (lenSetDC us S)
/-- tuples stand at addresses -/
theorem quads {w : Wd} : ∀ {us : List U} {vs : List V} {ds : List PyData}, VRs (KMof X) w us vs → toDs us = some ds → ds.all keyOk = true → ∃ qs : List (U × Addr × PyData), qs.map (·.1) = us ∧ (qs.map fun q => V.ref q.2.1) = vs ∧ (qs.map fun q => q.2.2) = ds ∧
    ∀ q ∈ qs, VR (KMof X) w q.1 (V.ref q.2.1) ∧ toD q.1 = some q.2.2 ∧ keyOk q.2.2 = true
  | _, _, _, .nil, h, _ => by cases h; exact ⟨[], rfl, rfl, rfl, fun t ht => by cases ht⟩
  | _, _, _, .cons (u := u) (us := us) r rs, h, hk => by
    unfold toDs at h
    split at h
    · rename_i d ds e1 e2
      cases h
      rw [List.all_cons, Bool.and_eq_true] at hk
      obtain ⟨qs, h1, h2, h3, h4⟩ := quads rs e2 hk.2
      obtain ⟨k, ek, _, ks, rfl⟩ := keyOk_ok hk.1
      obtain ⟨a, ha⟩ : ∃ a, ‹V› = V.ref a := by
        cases u with
        | tup us' => cases r with | tup q _ => exact ⟨_, rfl⟩
        | non => unfold toD at e1; cases e1; unfold keyD at ek; cases ek
        | bl b => unfold toD at e1; cases e1; unfold keyD at ek; cases ek
        | int i => unfold toD at e1; cases e1; unfold keyD at ek; cases ek
        | str x => unfold toD at e1; cases e1; unfold keyD at ek; cases ek
        | lst us' => cases r; exact ⟨_, rfl⟩
        | frz us' => cases r; exact ⟨_, rfl⟩
        | dic _ _ => cases r; exact ⟨_, rfl⟩
        | loc _ => cases r; exact ⟨_, rfl⟩
        | ty _ => unfold toD at e1; cases e1
        | exc _ _ _ => cases r; exact ⟨_, rfl⟩
        | cl _ => cases r; exact ⟨_, rfl⟩
      subst ha
      refine ⟨(u, a, d) :: qs, by rw [List.map_cons, h1], by rw [List.map_cons, h2], by rw [List.map_cons, h3], fun q hq => ?_⟩
      rcases List.mem_cons.mp hq with rfl | hq
      · exact ⟨r, e1, hk.1⟩
      · exact h4 q hq
    · cases h
/-- the rows that a set has -/
theorem picked {qs : List (U × Addr × PyData)} : ∀ {L : List (Addr × NestedKey)}, (∀ p ∈ L, ∃ b ∈ qs.map (·.2), b.1 = p.1 ∧ kOf b.2 = p.2) → ∃ rs : List (U × Addr × PyData), (∀ r ∈ rs, r ∈ qs) ∧ (rs.map fun r => r.2.1) = L.map (·.1) ∧ (rs.map fun r => kOf r.2.2) = L.map (·.2)
  | [], _ => ⟨[], fun r hr => (by cases hr), rfl, rfl⟩
  | p :: L, h => by
    obtain ⟨rs, h1, h2, h3⟩ := picked (L := L) fun q hq => h q (List.mem_cons_of_mem _ hq)
    obtain ⟨b, hb, e1, e2⟩ := h p List.mem_cons_self
    obtain ⟨q, hq, rfl⟩ := List.mem_map.mp hb
    refine ⟨q :: rs, fun r hr => ?_, by rw [List.map_cons, List.map_cons, h2, e1], by rw [List.map_cons, List.map_cons, h3, e2]⟩
    rcases List.mem_cons.mp hr with rfl | hr
    · exact hq
    · exact h1 r hr
theorem keyV_of {u : U} {d : PyData} (h : toD u = some d) : keyV u = kOf d := by
  unfold keyV dOf
  rw [h]
  rfl
theorem vrs_quad {w : Wd} : ∀ {qs : List (U × Addr × PyData)}, (∀ q ∈ qs, VR (KMof X) w q.1 (V.ref q.2.1)) → VRs (KMof X) w (qs.map (·.1)) (qs.map fun q => V.ref q.2.1)
  | [], _ => .nil
  | q :: qs, h => .cons (h q List.mem_cons_self) (vrs_quad fun u hu => h u (List.mem_cons_of_mem _ hu))
theorem len_nodup {α : Type} [DecidableEq α] {l m : List α} (h1 : l.Nodup) (h2 : m.Nodup) (h : ∀ x, x ∈ l ↔ x ∈ m) : l.length = m.length := ((List.perm_ext_iff_of_nodup h1 h2).mpr h).length_eq
theorem sl_sortSetA {e : Expr} {fa : FA} {p p2 pos pos2 : Pos} (hc : X.calm = true) (hu : X.A.units + 64 < cLine) (hg : Gl X "sorted") (hm : X.mg "sorted" = none) (hg2 : Gl X "set") (hm2 : X.mg "set" = none) (ha : SimA X Wx [e] fa)
    (he : starEach [.Call (.Name "set" p2) [e] [] pos2] X.env = (false, eval (.Call (.Name "set" p2) [e] [] pos2) X.env) :: starEach [] X.env := by rfl) (he2 : starEach [e] X.env = (false, eval e X.env) :: starEach [] X.env := by rfl)
    (hpl : (backTo pos (starEach [] X.env)).any (·.1) = false := by rfl) (hpl2 : (backTo pos2 (starEach [] X.env)).any (·.1) = false := by rfl) :
    SimL X Wx (.Call (.Name "sorted" p) [.Call (.Name "set" p2) [e] [] pos2] [] pos) (fA sortSetA fa) := by
  obtain ⟨ta, pa, ha⟩ := ha.out
  have P1 := pe_callTy (T := "set") (p := p2) (pos := pos2) ((cr_setTx hc).or (cr_setK hc hu)) hg2 hm2 (by decide +kernel) pa (by decide) (by decide) he2 hpl2
  have P2 := pe_callB (id := "sorted") (p := p) (pos := pos) ((cr_sortTx hc).or (cr_sortK hc hu)) hg hm (by decide +kernel) (pa_cons P1 pa_nil he) (by decide) (by decide) he hpl
  refine SimL.mk P2 (fun w d σ Q s e h => ?_)
  refine ha w d σ _ s e ((Pst.of_bind h).mono (fun us S1 h1 w1 vs eS st s1 rs => ?_) fun _ _ q => q)
  subst eS
  unfold sortSetA at h1
  rcases pst_alt h1 with h1 | h1
  · unfold sortSetC at h1
    split at h1
    · split at h1
      · rename_i u zs hb
        obtain ⟨hl, h1⟩ := guard_post h1
        have hl := of_decide_eq_true hl
        cases rs with
        | cons r rs =>
          cases rs
          obtain ⟨ls, hls, hzs⟩ := Option.bind_eq_some_iff.mp hb
          obtain ⟨a, xs, rfl, q, rx⟩ := listOf_ok s1 r hls
          have e := strsOf_ok rx hzs
          subst e
          refine .inl ⟨a, zs, rfl, q, by omega, fun p' c hp hcl => .inl ?_⟩
          refine ⟨p', _, c, rfl, upd_same, by omega, fun ys p'' so nd mm hp2 => ?_⟩
          have st1 := Stp.new s1 (o := SsO X.prog X.w p' (fun j => decide (j ∈ zs)) c) hp
          have := set_sorted so nd mm
          subst this
          exact h1 (w1.new p' _) p'' _ rfl (st.trans st1) (s1.new hp) (strs_rel _) hp2
      · exact h1.elim
    · exact h1.elim
  · unfold sortSetDC at h1
    split at h1
    · rename_i u
      split at h1
      · rename_i xs hb
        split at h1
        · rename_i ds hds
          obtain ⟨hl, hfin⟩ := guard_post h1
          rw [Bool.and_eq_true, Bool.and_eq_true] at hl
          obtain ⟨⟨hs, hk⟩, hn⟩ := hl
          have hn := of_decide_eq_true hn
          obtain ⟨al, so, dp⟩ := sortOk_ok hs
          cases rs with
          | cons r rs =>
            cases rs
            obtain ⟨a, vs, rfl, q, rx⟩ := seqOf_ok s1 r hb
            obtain ⟨qs, e1, e2, e3, hq⟩ := quads rx hds hk
            subst e1 e2 e3
            rw [List.length_map] at hn
            have hD : ∀ {w' : Wd}, w'.H = w1.H → ∀ q ∈ qs, Dp X.K w'.H (V.ref q.2.1) q.2.2 := fun {w'} ew q hqm => by rw [ew]; exact toD_ok (hq q hqm).1 (hq q hqm).2.1
            refine .inr ⟨a, qs.map (·.2), rfl, by rw [List.map_map]; exact q, fun b hbm => ?_, by rw [List.length_map]; exact hn, fun p' L hp hL1 hL2 hnd => .inr ?_⟩
            · obtain ⟨q, hqm, rfl⟩ := List.mem_map.mp hbm
              exact ⟨toD_ok (hq q hqm).1 (hq q hqm).2.1, (hq q hqm).2.2⟩
            · obtain ⟨rs, r1, r2, r3⟩ := picked hL1
              have st1 := Stp.new s1 (o := SnO X.w p' L) hp
              have vr1 : ∀ q ∈ qs, VR (KMof X) (w1.new p' (SnO X.w p' L)) q.1 (V.ref q.2.1) := fun q hqm => (hq q hqm).1.ext st1.1 s1
              refine ⟨p', L, rs.map (·.2), rfl, upd_same, by rw [List.map_map]; exact r2, fun c hcm => ?_, ?_, ?_, ?_, fun cs' p'' pc hp2 => ?_⟩
              · obtain ⟨r, hr, rfl⟩ := List.mem_map.mp hcm
                exact toD_ok (w := w1.new p' (SnO X.w p' L)) (vr1 r (r1 r hr)) (hq r (r1 r hr)).2.1
              · intro d hd e he
                rw [List.map_map] at hd he
                obtain ⟨r, hr, rfl⟩ := List.mem_map.mp hd
                obtain ⟨r', hr', rfl⟩ := List.mem_map.mp he
                exact al _ (List.mem_map.mpr ⟨r, r1 r hr, rfl⟩) _ (List.mem_map.mpr ⟨r', r1 r' hr', rfl⟩)
              · have sub : ∀ d ∈ (rs.map (·.2)).map (·.2), d ∈ qs.map fun q => q.2.2 := fun d hd => by
                  rw [List.map_map] at hd
                  obtain ⟨r, hr, rfl⟩ := List.mem_map.mp hd
                  exact List.mem_map.mpr ⟨r, r1 r hr, rfl⟩
                exact so.imp (fun z d hd => z d (sub d hd)) fun z d hd => z d (sub d hd)
              · intro d hd
                rw [List.map_map] at hd
                obtain ⟨r, hr, rfl⟩ := List.mem_map.mp hd
                exact dp _ (List.mem_map.mpr ⟨r, r1 r hr, rfl⟩)
              · obtain ⟨rs', pr, er⟩ := perm_back pc (f := fun r : U × Addr × PyData => r.2) (cs := rs) rfl
                subst er
                have sub' : ∀ r ∈ rs', r ∈ qs := fun r hr => r1 r (pr.mem_iff.mp hr)
                have m1 : (rs'.mergeSort fun a b => leD a.1 b.1).map (·.1) = sortD (rs'.map (·.1)) :=
                  PySem.W.sort_maps (fun t : U × Addr × PyData => t.1) (r := fun a b => leD a.1 b.1) (s := leD) (l := rs') fun a _ b _ => rfl
                have m2 : (rs'.mergeSort fun a b => leD a.1 b.1).map (·.2) = (rs'.map (·.2)).mergeSort leK := by
                  refine PySem.W.sort_maps (fun t : U × Addr × PyData => t.2) fun a ha b hb => ?_
                  show (!PyProof.Rows.lexLt PyProof.Rows.itemOrd (PySem.W.keyToks (dOf b.1)) (PySem.W.keyToks (dOf a.1))) = (!PyProof.Rows.lexLt PyProof.Rows.itemOrd (PySem.W.keyToks b.2.2) (PySem.W.keyToks a.2.2))
                  unfold dOf
                  rw [(hq a (sub' a ha)).2.1, (hq b (sub' b hb)).2.1]
                  rfl
                have kv : ∀ q ∈ qs, keyV q.1 = kOf q.2.2 := fun q hqm => keyV_of (hq q hqm).2.1
                have nd1 : ((rs.map (·.1)).map keyV).Nodup := by
                  have : (rs.map (·.1)).map keyV = L.map (·.2) := by
                    rw [List.map_map, ← r3]
                    exact List.map_congr_left fun r hr => kv r (r1 r hr)
                  rw [this]; exact hnd
                have eqU : ∀ a ∈ qs.map (·.1), ∀ b ∈ qs.map (·.1), leD a b = true → leD b a = true → a = b := fun a ha b hb h1 h2 => by
                  obtain ⟨q, hqm, rfl⟩ := List.mem_map.mp ha
                  obtain ⟨q', hqm', rfl⟩ := List.mem_map.mp hb
                  exact leD_anti (hq q hqm).2.1 (hq q' hqm').2.1 (hq q hqm).2.2 (al _ (List.mem_map.mpr ⟨q, hqm, rfl⟩) _ (List.mem_map.mpr ⟨q', hqm', rfl⟩)) h1 h2
                have keyEq : ∀ a ∈ qs.map (·.1), ∀ b ∈ qs.map (·.1), keyV a = keyV b → a = b := fun a ha b hb e => by
                  obtain ⟨q, hqm, rfl⟩ := List.mem_map.mp ha
                  obtain ⟨q', hqm', rfl⟩ := List.mem_map.mp hb
                  rw [kv q hqm, kv q' hqm'] at e
                  exact keyData_eq (hq q hqm).2.1 (hq q' hqm').2.1 (hq q hqm).2.2 (hq q' hqm').2.2 (al _ (List.mem_map.mpr ⟨q, hqm, rfl⟩) _ (List.mem_map.mpr ⟨q', hqm', rfl⟩)) e
                have pn : (rs.map (·.1)).Perm (nubK (qs.map (·.1))) := by
                  refine (List.perm_ext_iff_of_nodup (key_nodup nd1) (key_nodup (nubK_nodup _))).mpr fun x => ⟨fun hx => ?_, fun hx => ?_⟩
                  · obtain ⟨r, hr, rfl⟩ := List.mem_map.mp hx
                    have hm : r.1 ∈ qs.map (·.1) := List.mem_map.mpr ⟨r, r1 r hr, rfl⟩
                    obtain ⟨y, hy, ey⟩ := List.mem_map.mp (nubK_key hm)
                    rw [← keyEq y (nubK_sub hy) r.1 hm ey]
                    exact hy
                  · have hm := nubK_sub hx
                    obtain ⟨q, hqm, rfl⟩ := List.mem_map.mp hm
                    have z := hL2 q.2 (List.mem_map.mpr ⟨q, hqm, rfl⟩)
                    rw [← r3] at z
                    obtain ⟨r, hr, er⟩ := List.mem_map.mp z
                    have hrm : r.1 ∈ qs.map (·.1) := List.mem_map.mpr ⟨r, r1 r hr, rfl⟩
                    have : r.1 = q.1 := keyEq r.1 hrm q.1 hm (by rw [kv r (r1 r hr), kv q hqm]; exact er)
                    exact List.mem_map.mpr ⟨r, hr, this⟩
                have fin : (rs'.mergeSort fun a b => leD a.1 b.1).map (·.1) = sortD (nubK (qs.map (·.1))) := by
                  rw [m1]
                  refine sortD_unique ((pr.map (·.1)).trans pn) fun a ha b hb => eqU a ?_ b ?_
                  · obtain ⟨r, hr, rfl⟩ := List.mem_map.mp ha
                    exact List.mem_map.mpr ⟨r, sub' r hr, rfl⟩
                  · obtain ⟨r, hr, rfl⟩ := List.mem_map.mp hb
                    exact List.mem_map.mpr ⟨r, sub' r hr, rfl⟩
                have v := vrs_quad (X := X) (w := w1.new p' (SnO X.w p' L)) (qs := rs'.mergeSort fun a b => leD a.1 b.1) fun t ht => vr1 t (sub' t ((List.mergeSort_perm _ _).mem_iff.mp ht))
                rw [fin] at v
                have out := hfin (w1.new p' (SnO X.w p' L)) p'' _ rfl (st.trans st1) (s1.new hp) v hp2
                rw [← m2, List.map_map]
                exact out
        · exact h1.elim
      · exact h1.elim
    · exact h1.elim
end
end DL

set_option Elab.async false
set_option linter.all false
set_option maxRecDepth 100000
set_option maxHeartbeats 1000000
namespace DL
open PySem PySem.Spec L2 PyProof.Rows HT
section
variable {X : Cx} {Wx : WX}
theorem noX_alt {a b : R U} (h1 : noX a) (h2 : noX b) : noX (alt a b) := by
  cases a with
  | bad => exact h2
  | ok x S => trivial
  | exc x S => exact h1
theorem CallSim.alt {f : Value} {g1 g2 : List U → Sto → R U} (h1 : CallSim X f g1) (h2 : CallSim X f g2) : CallSim X f (fun us S => DL.alt (g1 us S) (g2 us S)) := by
  obtain ⟨r1, c1, n1, k1⟩ := h1
  obtain ⟨r2, c2, n2, k2⟩ := h2
  refine ⟨_, c1.or c2, fun us S => noX_alt (n1 us S) (n2 us S), fun w us vs Q s rs h => ?_⟩
  rcases pst_alt h with q | q
  · exact .inl (k1 w us vs Q s rs q)
  · exact .inr (k2 w us vs Q s rs q)
theorem MtSim.alt {id : String} {g1 g2 : U → List U → Sto → R U} (h1 : MtSim X id g1) (h2 : MtSim X id g2) : MtSim X id (fun u us S => DL.alt (g1 u us S) (g2 u us S)) := by
  obtain ⟨r1, c1, n1, k1⟩ := h1
  obtain ⟨r2, c2, n2, k2⟩ := h2
  refine ⟨_, MtR.or c1 c2, fun u us S => noX_alt (n1 u us S) (n2 u us S), fun w u us v vs Q s r rs h => ?_⟩
  rcases pst_alt h with q | q
  · exact .inl (k1 w u us v vs Q s r rs q)
  · exact .inr (k2 w u us v vs Q s r rs q)
theorem OpSim.alt {F : Value → Value → Sem Value} {g1 g2 : U → U → Sto → R U} (h1 : OpSim X F g1) (h2 : OpSim X F g2) : OpSim X F (fun x y S => DL.alt (g1 x y S) (g2 x y S)) := by
  obtain ⟨r1, c1, k1⟩ := h1
  obtain ⟨r2, c2, k2⟩ := h2
  refine ⟨_, c1.or c2, fun w x y v v' Q s rx ry h => ?_⟩
  rcases pst_alt h with q | q
  · exact .inl (k1 w x y v v' Q s rx ry q)
  · exact .inr (k2 w x y v v' Q s rx ry q)
/-! ### len(set(xs)) -/
theorem se_lenSetA {e : Expr} {fa : FA} {p p2 pos pos2 : Pos} (hc : X.calm = true) (hu : X.A.units + 64 < cLine) (hg : Gl X "len") (hm : X.mg "len" = none) (hg2 : Gl X "set") (hm2 : X.mg "set" = none) (ha : SimA X Wx [e] fa)
    (he : starEach [.Call (.Name "set" p2) [e] [] pos2] X.env = (false, eval (.Call (.Name "set" p2) [e] [] pos2) X.env) :: starEach [] X.env := by rfl) (he2 : starEach [e] X.env = (false, eval e X.env) :: starEach [] X.env := by rfl)
    (hpl : (backTo pos (starEach [] X.env)).any (·.1) = false := by rfl) (hpl2 : (backTo pos2 (starEach [] X.env)).any (·.1) = false := by rfl) :
    SimE X Wx (.Call (.Name "len" p) [.Call (.Name "set" p2) [e] [] pos2] [] pos) (fA lenSetA fa) := by
  obtain ⟨ta, pa, ha⟩ := ha.out
  have P1 := pe_callTy (T := "set") (p := p2) (pos := pos2) ((cr_setTx hc).or (cr_setK hc hu)) hg2 hm2 (by decide +kernel) pa (by decide) (by decide) he2 hpl2
  have P2 := pe_callB (id := "len") (p := p) (pos := pos) (CallR.or (X := X) cr_lenTx cr_lenK) hg hm (by decide +kernel) (pa_cons P1 pa_nil he) (by decide) (by decide) he hpl
  refine SimE.mk P2 (fun w d σ Q s e h => ?_)
  refine ha w d σ _ s e ((Pst.of_bind h).mono (fun us S1 h1 w1 vs eS st s1 rs => ?_) fun _ _ q => q)
  subst eS
  unfold lenSetA at h1
  rcases pst_alt h1 with h1 | h1
  · unfold lenSetC at h1
    split at h1
    · split at h1
      · rename_i u zs hb
        obtain ⟨hl, hfin⟩ := guard_post h1
        have hl := of_decide_eq_true hl
        cases rs with
        | cons r rs =>
          cases rs
          obtain ⟨ls, hls, hzs⟩ := Option.bind_eq_some_iff.mp hb
          obtain ⟨a, xs, rfl, q, rx⟩ := listOf_ok s1 r hls
          have e := strsOf_ok rx hzs
          subst e
          refine .inl ⟨a, zs, rfl, q, by omega, fun p' c hp hcl => .inl ?_⟩
          refine ⟨p', _, c, rfl, upd_same, fun ys nd mm hn => ?_⟩
          have st1 := Stp.new s1 (o := SsO X.prog X.w p' (fun j => decide (j ∈ zs)) c) hp
          have e1 : (nubT zs).length = c := by
            rw [← hn]
            exact len_nodup (nubT_nodup zs) nd fun k => by rw [mm, decide_eq_true_eq, nubT_mem]
          rw [e1] at hfin
          exact hfin (w1.new p' _) (.int c) rfl (st.trans st1) (s1.new hp) (.int _)
      · exact h1.elim
    · exact h1.elim
  · unfold lenSetDC at h1
    split at h1
    · rename_i u
      split at h1
      · rename_i xs hb
        split at h1
        · rename_i ds hds
          obtain ⟨hl, hfin⟩ := guard_post h1
          rw [Bool.and_eq_true] at hl
          obtain ⟨hk, hn⟩ := hl
          have hn := of_decide_eq_true hn
          cases rs with
          | cons r rs =>
            cases rs
            obtain ⟨a, vs, rfl, q, rx⟩ := seqOf_ok s1 r hb
            obtain ⟨qs, e1, e2, e3, hq⟩ := quads rx hds hk
            subst e1 e2 e3
            rw [List.length_map] at hn
            refine .inr ⟨a, qs.map (·.2), rfl, by rw [List.map_map]; exact q, fun b hbm => ?_, by rw [List.length_map]; exact hn, fun p' L hp hL1 hL2 hnd => .inr ?_⟩
            · obtain ⟨q, hqm, rfl⟩ := List.mem_map.mp hbm
              exact ⟨toD_ok (hq q hqm).1 (hq q hqm).2.1, (hq q hqm).2.2⟩
            · have st1 := Stp.new s1 (o := SnO X.w p' L) hp
              refine ⟨p', L, rfl, upd_same, ?_⟩
              have kv : ∀ q ∈ qs, keyV q.1 = kOf q.2.2 := fun q hqm => keyV_of (hq q hqm).2.1
              have e1 : (nubK (qs.map (·.1))).length = L.length := by
                have z := len_nodup (nubK_nodup (qs.map (·.1))) hnd fun k => ⟨fun hk => ?_, fun hk => ?_⟩
                · rw [List.length_map, List.length_map] at z
                  exact z
                · obtain ⟨u, hu, rfl⟩ := List.mem_map.mp hk
                  obtain ⟨q, hqm, rfl⟩ := List.mem_map.mp (nubK_sub hu)
                  rw [kv q hqm]
                  exact hL2 q.2 (List.mem_map.mpr ⟨q, hqm, rfl⟩)
                · obtain ⟨p, hp, rfl⟩ := List.mem_map.mp hk
                  obtain ⟨b, hb, _, e⟩ := hL1 p hp
                  obtain ⟨q, hqm, rfl⟩ := List.mem_map.mp hb
                  rw [← e, ← kv q hqm]
                  exact nubK_key (List.mem_map.mpr ⟨q, hqm, rfl⟩)
              rw [e1] at hfin
              exact hfin (w1.new p' _) (.int L.length) rfl (st.trans st1) (s1.new hp) (.int _)
        · exact h1.elim
      · exact h1.elim
    · exact h1.elim
/-! ### methods -/
def popLM (u : U) (us : List U) (S : Sto) : R U := match u, us with
  | .loc n, [] => match S[n]? with
    | some (.lst xs) => match xs[xs.length - 1]? with
      | some y => .ok y (S.set n (.lst xs.dropLast))
      | none => .bad
    | _ => .bad
  | .loc n, [.int i] => match S[n]? with
    | some (.lst xs) => match seqIndex? i xs.length with
      | some k => match xs[k]? with
        | some y => guard (decide (-(2 ^ 63) ≤ i) && decide (i < 2 ^ 63)) (.ok y (S.set n (.lst (xs.eraseIdx k))))
        | none => .bad
      | none => .bad
    | _ => .bad
  | _, _ => .bad
theorem vrs_erase {w : Wd} : ∀ {us : List U} {vs : List V} (k : Nat), VRs (KMof X) w us vs → VRs (KMof X) w (us.eraseIdx k) (vs.eraseIdx k)
  | _, _, _, .nil => .nil
  | _, _, 0, .cons _ rs => rs
  | _, _, k + 1, .cons r rs => .cons r (vrs_erase k rs)
theorem vrs_dropLast {w : Wd} {us : List U} {vs : List V} (h : VRs (KMof X) w us vs) : VRs (KMof X) w us.dropLast vs.dropLast := by
  rw [List.dropLast_eq_take, List.dropLast_eq_take, h.length]
  exact h.take _
theorem ms_popL : MtSim X "list.pop" popLM := by
  refine ⟨_, MtR.or mt_pop mt_popAt, fun u us S => ?_, fun w u us v vs Q s r rs h => ?_⟩
  · unfold popLM
    repeat' split
    all_goals first | trivial | exact noX_guard trivial
  · unfold popLM at h
    split at h
    · rename_i n
      split at h
      · rename_i xs hS
        split at h
        · rename_i y hy
          cases r with
          | @loc _ a hm =>
            cases rs
            obtain ⟨ys, q, r2⟩ := s.obj n a _ hm hS
            obtain ⟨vy, e, ry⟩ := r2.get hy
            have st : Stp w (w.put n a (.lst ys.dropLast) (.lst xs.dropLast)) := Stp.put s hm hS (by intro z; cases z)
            exact .inl ⟨a, ys, vy, rfl, rfl, q, by rw [← r2.length]; exact e, h _ vy rfl st (s.put hm hS (by intro z; cases z) ⟨_, upd_same, (vrs_dropLast r2).ext st.x s⟩) (ry.ext st.x s)⟩
        · exact h.elim
      · exact h.elim
    · rename_i n i
      split at h
      · rename_i xs hS
        split at h
        · rename_i k hk
          split at h
          · rename_i y hy
            obtain ⟨hl, h⟩ := guard_post h
            rw [Bool.and_eq_true, decide_eq_true_eq, decide_eq_true_eq] at hl
            cases r with
            | @loc _ a hm =>
              cases rs with
              | cons ri rs =>
                cases rs
                cases ri
                obtain ⟨ys, q, r2⟩ := s.obj n a _ hm hS
                obtain ⟨vy, e, ry⟩ := r2.get hy
                have st : Stp w (w.put n a (.lst (ys.eraseIdx k)) (.lst (xs.eraseIdx k))) := Stp.put s hm hS (by intro z; cases z)
                exact .inr ⟨a, ys, i, k, vy, rfl, rfl, q, hl.1, hl.2, by rw [← r2.length]; exact hk, e, h _ vy rfl st (s.put hm hS (by intro z; cases z) ⟨_, upd_same, (vrs_erase k r2).ext st.x s⟩) (ry.ext st.x s)⟩
          · exact h.elim
        · exact h.elim
      · exact h.elim
    · exact h.elim
def rstripM (u : U) (us : List U) (S : Sto) : R U := match u, us with
  | .str a, [.str b] => guard (decide (a.length ≤ sizeLine)) (.ok (.str (Txt.rstripChars a b)) S)
  | _, _ => .bad
theorem ms_rstrip : MtSim X "str.rstrip" rstripM := by
  refine ⟨_, mt_rstripChars, fun u us S => by unfold rstripM; split <;> first | trivial | exact noX_guard trivial, fun w u us v vs Q s r rs h => ?_⟩
  unfold rstripM at h
  split at h
  · obtain ⟨hl, h⟩ := guard_post h
    cases r
    cases rs with
    | cons ri rs =>
      cases rs
      cases ri
      exact ⟨_, _, rfl, rfl, of_decide_eq_true hl, OkE.here h s (.str _)⟩
  · exact h.elim
/-! ### str(x), text * number -/
def strC (us : List U) (S : Sto) : R U := match us with
  | [.int i] => guard (decide (i.natAbs.log2 < 1920)) (.ok (.str (toString i)) S)
  | [.str a] => .ok (.str a) S
  | _ => .bad
theorem cs_str : CallSim X (.type "str") strC := by
  refine ⟨_, call_str_int.or SkE.call_str_str, fun us S => by unfold strC; split <;> first | trivial | exact noX_guard trivial, fun w us vs Q s rs h => ?_⟩
  unfold strC at h
  split at h
  · obtain ⟨hl, h⟩ := guard_post h
    cases rs with
    | cons r rs => cases rs; cases r; exact .inl ⟨_, rfl, of_decide_eq_true hl, OkE.here h s (.str _)⟩
  · cases rs with
    | cons r rs => cases rs; cases r; exact .inr ⟨_, rfl, OkE.here h s (.str _)⟩
  · exact h.elim
/-- a text n times -/
def repT (x : Str) (n : Nat) : Str := ⟨(List.replicate n x.cps).foldl (· ++ ·) #[]⟩
def rMulS : R2 := fun x y H Q => ∃ (a : Str) (n : Nat), x = .str a ∧ y = .int n ∧ 1 ≤ n ∧ n ≤ 1000 ∧ a.length ≤ 1000 ∧ Q (.str (repT a n)) H
theorem repT_one (x : Str) : repT x 1 = x := by
  cases x
  unfold repT
  simp [List.replicate]
theorem fold_empty : ∀ (n : Nat) (acc : Array Nat), (List.replicate n (#[] : Array Nat)).foldl (· ++ ·) acc = acc
  | 0, _ => rfl
  | n + 1, acc => by rw [List.replicate_succ, List.foldl_cons, Array.append_empty]; exact fold_empty n acc
theorem fold_size (c : Array Nat) : ∀ (n : Nat) (acc : Array Nat), ((List.replicate n c).foldl (· ++ ·) acc).size = acc.size + n * c.size
  | 0, acc => by simp
  | n + 1, acc => by
    rw [List.replicate_succ, List.foldl_cons, fold_size c n, Array.size_append, Nat.succ_mul]
    omega
theorem op_mulS : OpR X (binaryOp .Mult) rMulS := by
  intro pins s σ H x y v u Q I rx ry h
  obtain ⟨a, n, rfl, rfl, h1, h2, h3, q⟩ := h
  obtain ⟨t, rfl⟩ := rx
  obtain ⟨t', rfl⟩ := ry
  have hz : a.length * n ≤ 1000000 := Nat.le_trans (Nat.mul_le_mul h3 h2) (by decide)
  have fin : ∀ (t2 : Tok) (k : Nat) (z : Str), z = repT a n → EP X pins σ Q (.str z t2) { s with toks := k } := fun t2 k z e => by
    rw [e]
    exact ⟨.str (repT a n), H, I.tok _, ⟨_, rfl⟩, q⟩
  refine PySem.P.mul_str (by
      rw [decide_eq_false (by omega), decide_eq_false (by omega)]
      rfl) (fun _ _ => ?_) (fun _ _ => ?_) ?_
  · intro z
    have e : (1000000 : Int) ≤ (2 ^ 63 - 1 : Int) / n := by
      rw [Int.le_ediv_iff_mul_le (by omega)]
      omega
    omega
  · rw [Int.toNat_natCast]
    exact decide_eq_false (by rw [sizeLine_eq]; omega)
  · rw [if_neg (by omega)]
    split
    · rename_i c
      rw [Bool.or_eq_true, beq_iff_eq, beq_iff_eq] at c
      refine fin _ _ a ?_
      rcases c with c | c
      · have : n = 1 := by omega
        rw [this, repT_one]
      · obtain ⟨cps⟩ := a
        have : cps = #[] := Array.eq_empty_of_size_eq_zero c
        subst this
        unfold repT
        rw [fold_empty]
    · rw [Int.toNat_natCast]
      refine ⟨?_, fin _ _ _ rfl⟩
      show ((List.replicate n a.cps).foldl (· ++ ·) #[]).size ≤ sizeLine
      rw [fold_size, sizeLine_eq]
      have hz' : n * a.cps.size ≤ 1000000 := by rw [Nat.mul_comm]; exact hz
      simpa using (by omega : n * a.cps.size ≤ 16777216)
def mulSU (x y : U) (S : Sto) : R U := match x, y with
  | .str a, .int n => guard (decide (1 ≤ n) && decide (n ≤ 1000) && decide (a.length ≤ 1000)) (.ok (.str (repT a n.toNat)) S)
  | _, _ => .bad
theorem os_mulS : OpSim X (binaryOp .Mult) mulSU := by
  refine ⟨_, op_mulS, fun w x y v v' Q s rx ry h => ?_⟩
  unfold mulSU at h
  split at h
  · rename_i a n
    obtain ⟨hl, h⟩ := guard_post h
    rw [Bool.and_eq_true, Bool.and_eq_true, decide_eq_true_eq, decide_eq_true_eq, decide_eq_true_eq] at hl
    cases rx
    cases ry
    refine ⟨a, n.toNat, rfl, by rw [Int.toNat_of_nonneg (by omega)], by omega, by omega, hl.2, OkE.here h s (.str _)⟩
  · exact h.elim
def mulAU (x y : U) (S : Sto) : R U := alt (mulU x y S) (mulSU x y S)
theorem os_mulA : OpSim X (binaryOp .Mult) mulAU := os_mul.alt os_mulS
theorem noX_mulA (x y : U) (S : Sto) : noX (mulAU x y S) := noX_alt (noX_mul x y S) (by unfold mulSU; split <;> first | trivial | exact noX_guard trivial)
end
end DL

set_option Elab.async false
set_option linter.all false
set_option maxRecDepth 100000
set_option maxHeartbeats 1000000
namespace DL
open PySem PySem.Spec L2 PyProof.Rows HT
theorem fm_congr {α β : Type} {f g : α → Option β} : ∀ {l : List α}, (∀ x ∈ l, f x = g x) → l.filterMap f = l.filterMap g
  | [], _ => rfl
  | x :: l, h => by
    have ih := fm_congr (l := l) fun y hy => h y (List.mem_cons_of_mem _ hy)
    have hx := h x List.mem_cons_self
    cases e : g x with
    | none => rw [List.filterMap_cons_none (hx.trans e), List.filterMap_cons_none e, ih]
    | some b => rw [List.filterMap_cons_some (hx.trans e), List.filterMap_cons_some e, ih]
/-! ### t[::-1] -/
section
variable {prog : Program} {w : World} {A : Around} {E : Value → Shared → Prop} {s : Shared}
theorem rev_places (n : Nat) : Builtin.Slice.slicePlaces ((n : Int) - 1) (-1) (-1) = n := by
  unfold Builtin.Slice.slicePlaces
  rw [if_neg (by decide)]
  split
  · rw [show (-(-1) : Int) = 1 by decide, Int.ediv_one]; omega
  · omega
theorem getItem_tuple_rev {t sl : Addr} {items : Array Value} {vs : Value} {Q : Value → Shared → Prop} (ht : IsTup s.heap t items) (hs : s.heap.IsSliceOf sl .none .none vs) (ps : IsPart vs (some (-1)))
    (h : Q (.ref s.heap.objs.size) { s with heap := s.heap.push { cls := .type "tuple", data := .seq items.toList.reverse.toArray } })
    (hsz : items.size ≤ sizeLine) : wpAny (model prog w) A (getItem (.ref t) (.ref sl)) Q E s := by
  have htake : sizeOk (.seq items.toList.reverse.toArray) := by
    show items.toList.reverse.toArray.size ≤ sizeLine
    rw [List.size_toArray, List.length_reverse, Array.length_toList]
    exact hsz
  obtain ⟨os, hos, hcs, hds⟩ := id hs
  have hTs : s.TypeIs (.ref sl) "slice" := ⟨os, hos, hcs⟩
  unfold getItem
  try with_reducible refine wpAny_holding ?_
  first | refine wpAny_bind (wpAny_pure ?_) | skip
  refine wpAny_bind (wpAny_sequenceKey ht.typeIs (by decide) ?_)
  refine wpAny_bind (wpAny_callSpecial?_slot (name := Str.ofString "__getitem__") ht.typeIs PyProof.Rows.slot_tuple_getitem
    (wpAny_call_entry PyProof.Rows.slot_tuple_getitem ht.typeIs entry_tuple_getitem ?_ (args_tuple_getitem _ _)))
  show wpAny _ _ (Builtin.Tuple.tupleItemsOf (.ref t) >>= _) _ _ s
  refine wpAny_bind (tupleItemsOf_ ht ?_)
  refine wpAny_bind (wpAny_typeOf hTs ?_)
  rw [if_pos (by decide)]
  have app : ∀ {Q : Int × Int × Nat → Shared → Prop}, Q ((items.size : Int) - 1, -1, items.size) s → ∀ {A : Around} {E : Value → Shared → Prop}, wpAny (model prog w) A (Builtin.Slice.sliceApplied (.ref sl) (pure (items.size : Int))) Q E s := by
    intro Q hq A E
    unfold Builtin.Slice.sliceApplied Builtin.Slice.sliceFields
    refine wpAny_bind (wpAny_bind (wpAny_field hos hds (x := .none) rfl (wpAny_bind (wpAny_field hos hds (x := .none) rfl (wpAny_bind (wpAny_field hos hds (x := vs) rfl (wpAny_pure ?_)))))))
    refine wpAny_bind (slicePart_ ps ?_)
    show wpAny _ _ (if ((-1 : Int) == 0) = true then _ else _) _ _ s
    rw [if_neg (by decide)]
    refine wpAny_bind (slicePart_none (wpAny_bind (slicePart_none (wpAny_bind (wpAny_pure ?_)))))
    show wpAny _ _ (pure ((items.size : Int) - 1, (-1 : Int), Builtin.Slice.slicePlaces ((items.size : Int) - 1) (-1) (-1))) _ _ s
    rw [rev_places]
    exact wpAny_pure hq
  refine wpAny_bind (app ?_)
  have hno : ¬ (((items.size : Int) - 1 == 0 && (-1 : Int) == 1 && items.size == items.size) = true) := by
    rw [Bool.and_eq_true, Bool.and_eq_true]
    intro q
    exact absurd q.1.2 (by decide)
  show wpAny _ _ (if ((items.size : Int) - 1 == 0 && (-1 : Int) == 1 && items.size == items.size) = true then _ else _) _ _ s
  have pick : ((List.range items.size).filterMap fun (m : Nat) => items[((items.size : Int) - 1 + (m : Int) * (-1)).toNat]?).toArray = items.toList.reverse.toArray := by
    congr 1
    have e : ∀ m ∈ List.range items.size, (fun (m : Nat) => items[((items.size : Int) - 1 + (m : Int) * (-1)).toNat]?) m = ((fun x => items[x]?) ∘ fun m => items.size - 1 - m) m := fun m hm => by
      have := List.mem_range.mp hm
      have e2 : ((items.size : Int) - 1 + (m : Int) * (-1)).toNat = items.size - 1 - m := by omega
      show items[((items.size : Int) - 1 + (m : Int) * (-1)).toNat]? = items[items.size - 1 - m]?
      rw [e2]
    rw [fm_congr e, ← List.filterMap_map, PySem.W.krv_range, List.filterMap_reverse, PySem.W.krv_all]
  rw [if_neg hno, pick]
  first
    | exact wpAny_bind (m := Builtin.Tuple.tupleExact _) (wpAny_newObj_type (wpAny_pure ⟨_, rfl, wpAny_pure h⟩) htake)
    | exact wpAny_bind (m := Builtin.Tuple.tupleExact _) (wpAny_newObj_type (wpAny_bind (wpAny_pure (wpAny_pure ⟨_, rfl, wpAny_pure h⟩))) htake)
    | exact wpAny_bind (wpAny_bind (m := Builtin.Tuple.tupleExact _) (wpAny_newObj_type (wpAny_pure (wpAny_pure ⟨_, rfl, wpAny_pure h⟩)) htake))
    | exact wpAny_bind (wpAny_bind (m := Builtin.Tuple.tupleExact _) (wpAny_newObj_type (wpAny_pure ⟨_, rfl, wpAny_pure h⟩) htake))
end
section
variable {X : Cx} {Wx : WX}
def tRevT (K : PySem.W.Frag) (te : TE) : TE := fun σ H Q => te σ H fun x H1 => ∃ a xs, x = .ref a ∧ SqT K H1 a xs ∧ ∀ p, H1 p = none → Q (.ref p) (upd H1 p (.tup xs.reverse))
theorem pe_revT {e : Expr} {te : TE} {k : Nat} {p1 p2 p3 pos : Pos} (he : PE X e te) : PE X (.Subscript e (.Slice none none (some (.UnaryOp .USub (.Constant (.int 1) k p1) p2)) p3) pos) (tRevT X.K te) := by
  refine ⟨fun pins s σ H Q I h => ?_⟩
  refine Subscript_ (thn (he.run pins s σ H _ I h) fun v s1 ⟨x, H1, I1, r1, q1⟩ => ?_)
  obtain ⟨a, xs, ex, hx, q⟩ := q1
  subst ex
  cases r1
  have hst : PO X (some (.UnaryOp .USub (.Constant (.int 1) k p1) p2)) (tPart (tUn (rU fun i => .int (-i)) (tC (.int 1)))) := po_some (pe_un un_neg pe_int)
  refine wpAny_Slice (thn (po_none.run pins s1 σ H1 (fun o H2 => o = none ∧ H2 = H1) I1 ⟨rfl, rfl⟩) fun vl s2 ⟨l, H2, I2, pl, el, e2⟩ => ?_)
  subst el e2
  refine thn (po_none.run pins s2 σ H2 (fun o H3 => o = none ∧ H3 = H2) I2 ⟨rfl, rfl⟩) fun vu s3 ⟨u, H3, I3, pu, eu, e3⟩ => ?_
  subst eu e3
  refine thn (hst.run pins s3 σ H3 (fun o H4 => o = some (-1) ∧ H4 = H3) I3 ⟨1, rfl, -1, rfl, rfl, rfl⟩) fun vs s4 ⟨o, H4, I4, ps, eo, e4⟩ => ?_
  subst eo e4
  cases pl
  cases pu
  have I5 : Inv X pins σ H4 { s4 with heap := s4.heap.push { cls := .type "slice", data := .fields #[.none, .none, vs] } } := I4.kept (t' := s4.toks) fun b ob q => Heap.get?_push_of_some _ q
  obtain ⟨its, r, ht, hz⟩ := I5.tuple hx
  have hlen := r.length
  show wpAny (model X.prog X.w) X.A (subscriptTail e (.Slice none none (some (.UnaryOp .USub (.Constant (.int 1) k p1) p2)) p3) (.ref a) (.ref s4.heap.objs.size)) (EP X pins σ Q) X.xe { s4 with heap := s4.heap.push { cls := .type "slice", data := .fields #[.none, .none, vs] } }
  refine tail_any (ops := [.ref a, .ref s4.heap.objs.size]) (show Shared.TypeIs _ _ "tuple" from ⟨_, ht.choose_spec.1, ht.choose_spec.2.1⟩) (PyProof.Rows.slot_tuple_getitem.lookup) ?_ (by with_unfolding_all rfl)
  refine getItem_tuple_rev ht (Heap.IsSliceOf.new _ .none .none vs) ps ?_ (by rw [List.size_toArray]; omega)
  refine ⟨.ref _, _, I5.laid (t' := s4.toks) (o := .tup xs.reverse) (fun b ob q => Heap.get?_push_of_some _ q) (Nat.le_refl _) ?_, rfl, q _ (I5.hok.fresh (Nat.le_refl _))⟩
  exact ⟨by rw [List.length_reverse]; exact hz, its.reverse, r.reverse, ⟨_, Heap.get?_push_size _ rfl, rfl, _, rfl⟩⟩
def fRevT (fe : FE) : FE := fun d S => (fe d S).bind fun u S1 => match u with
  | .tup us => .ok (.tup us.reverse) S1
  | _ => .bad
theorem vrs_rev {w : Wd} : ∀ {us : List U} {vs : List V}, VRs (KMof X) w us vs → VRs (KMof X) w us.reverse vs.reverse
  | _, _, .nil => .nil
  | _, _, .cons r rs => by rw [List.reverse_cons, List.reverse_cons]; exact (vrs_rev rs).snoc r
theorem se_revT {e : Expr} {fe : FE} {k : Nat} {p1 p2 p3 pos : Pos} (he : SimE X Wx e fe) : SimE X Wx (.Subscript e (.Slice none none (some (.UnaryOp .USub (.Constant (.int 1) k p1) p2)) p3) pos) (fRevT fe) := by
  obtain ⟨te, pe, he⟩ := he.out
  refine SimE.mk (pe_revT pe) (fun w d σ Q s e h => he w d σ _ s e ((Pst.of_bind h).mono (fun u S1 h1 w1 v eS st s1 r => ?_) fun _ _ q => q))
  subst eS
  split at h1
  · cases r with
    | @tup _ xs _ hq rs =>
      refine ⟨_, _, rfl, hq.sq, fun p hp => ?_⟩
      have st1 := Stp.new s1 (o := .tup xs.reverse) hp
      exact h1 (w1.new p _) (.ref p) rfl (st.trans st1) (s1.new hp) (.tup (TqT.of upd_same) ((vrs_rev rs).ext st1.x s1))
  · exact h1.elim
/-! ### x in t, t a tuple of data -/
def inTD (x y : U) (S : Sto) : Option Bool := match y with
  | .tup us => match toD x, toDs us with
    | some d, some ds => if SeqAt.shaped d && SeqAt.shaped (.tuple ds) then some (ds.any fun z => PyData.eqv z d) else none
    | _, _ => none
  | _ => none
def inDU (x y : U) (S : Sto) : R U := match inTD x y S with
  | some b => .ok (.bl b) S
  | none => .bad
def ninDU (x y : U) (S : Sto) : R U := match inTD x y S with
  | some b => .ok (.bl (!b)) S
  | none => .bad
def rInTD (K : PySem.W.Frag) (g : Bool → Bool) : R2 := fun x y H Q => ∃ d ds, Dp K H x d ∧ Dp K H y (.tuple ds) ∧ SeqAt.shaped d = true ∧ SeqAt.shaped (.tuple ds) = true ∧ Q (.bl (g (ds.any fun z => PyData.eqv z d))) H
theorem op_inTD (hu : X.A.units + 66 < cLine) : OpR X (compareOp .In) (rInTD X.K id) := by
  intro pins s σ H x y v u Q I rx ry h
  obtain ⟨d, ds, hd, he, sd, se, q⟩ := h
  obtain ⟨as, r1⟩ := Dp.reads I d x v hd rx
  obtain ⟨bs, r2⟩ := Dp.reads I (.tuple ds) y u he ry
  exact SeqAt.in_tuple_reads r2 r1 (SeqAt.canLay_of_shaped se) (SeqAt.canLay_of_shaped sd) (room_in_shaped sd (by omega)) ⟨.bl _, H, I, rfl, q⟩
theorem op_ninTD (hu : X.A.units + 66 < cLine) : OpR X (compareOp .NotIn) (rInTD X.K not) := by
  intro pins s σ H x y v u Q I rx ry h
  obtain ⟨d, ds, hd, he, sd, se, q⟩ := h
  obtain ⟨as, r1⟩ := Dp.reads I d x v hd rx
  obtain ⟨bs, r2⟩ := Dp.reads I (.tuple ds) y u he ry
  exact SeqAt.notIn_tuple_reads r2 r1 (SeqAt.canLay_of_shaped se) (SeqAt.canLay_of_shaped sd) (room_in_shaped sd (by omega)) ⟨.bl _, H, I, rfl, q⟩
theorem inTD_ok {w : Wd} {x y : U} {v v' : V} {b : Bool} (rx : VR (KMof X) w x v) (ry : VR (KMof X) w y v') (h : inTD x y w.S = some b) : ∃ d ds, Dp X.K w.H v d ∧ Dp X.K w.H v' (.tuple ds) ∧ SeqAt.shaped d = true ∧ SeqAt.shaped (.tuple ds) = true ∧ (ds.any fun z => PyData.eqv z d) = b := by
  unfold inTD at h
  split at h
  · rename_i us
    split at h
    · rename_i d ds e1 e2
      split at h
      · rename_i c
        rw [Bool.and_eq_true] at c
        cases h
        exact ⟨d, ds, toD_ok rx e1, toD_ok ry (show toD (.tup us) = some (.tuple ds) by unfold toD; rw [e2]; rfl), c.1, c.2, rfl⟩
      · cases h
    · cases h
  · cases h
theorem os_inDU (hu : X.A.units + 66 < cLine) : OpSim X (compareOp .In) inDU := by
  refine ⟨_, op_inTD hu, fun w x y v v' Q s rx ry h => ?_⟩
  unfold inDU at h
  split at h
  · rename_i b hb
    obtain ⟨d, ds, h1, h2, h3, h4, e⟩ := inTD_ok rx ry hb
    exact ⟨d, ds, h1, h2, h3, h4, by rw [e]; exact OkE.here h s (.bl b)⟩
  · exact h.elim
theorem os_ninDU (hu : X.A.units + 66 < cLine) : OpSim X (compareOp .NotIn) ninDU := by
  refine ⟨_, op_ninTD hu, fun w x y v v' Q s rx ry h => ?_⟩
  unfold ninDU at h
  split at h
  · rename_i b hb
    obtain ⟨d, ds, h1, h2, h3, h4, e⟩ := inTD_ok rx ry hb
    exact ⟨d, ds, h1, h2, h3, h4, by rw [e]; exact OkE.here h s (.bl (!b))⟩
  · exact h.elim
def inAU (x y : U) (S : Sto) : R U := alt (inU x y S) (inDU x y S)
def ninAU (x y : U) (S : Sto) : R U := alt (ninU x y S) (ninDU x y S)
theorem os_inA (hu : X.A.units + 66 < cLine) : OpSim X (compareOp .In) inAU := (os_in hu).alt (os_inDU hu)
theorem os_ninA (hu : X.A.units + 66 < cLine) : OpSim X (compareOp .NotIn) ninAU := (os_nin hu).alt (os_ninDU hu)
theorem noX_inA (x y : U) (S : Sto) : noX (inAU x y S) := noX_alt (noX_in x y S) (by unfold inDU; split <;> trivial)
theorem noX_ninA (x y : U) (S : Sto) : noX (ninAU x y S) := noX_alt (noX_nin x y S) (by unfold ninDU; split <;> trivial)
end
end DL

set_option Elab.async false
set_option linter.all false
set_option maxRecDepth 100000
set_option maxHeartbeats 1000000
namespace DL
open PySem PySem.Spec L2 PyProof.Rows
/-! ### sorted(d.items()) -/
def kU : Key → U
  | .inl i => .int i
  | .inr x => .str x
def kD : Key → PyData
  | .inl i => .int i
  | .inr x => .str x
def itemsU (ks : List Key) (us : List U) : List U := List.zipWith (fun k u => .tup [kU k, u]) ks us
section
variable {X : Cx} {Wx : WX}
def rItemsK : V → List V → Hp → VK → Prop := fun x xs H Q => ∃ (a : Addr) (kvs : List (Key × V)), x = .ref a ∧ xs = [] ∧ H a = some (.dK kvs) ∧ ∀ p, H p = none → Q (.ref p) (upd H p (DX.itemsO p a))
theorem mt_itemsK : MtR X "dict.items" rItemsK := by
  intro pins s σ H x xs v us Q I rx rxs h
  obtain ⟨a, kvs, rfl, rfl, ha, q⟩ := h
  cases rx
  cases rxs
  obtain ⟨hz, hs0, vs, kv, hdo⟩ := I.hok a _ ha
  obtain ⟨ep, hat⟩ := hdo.dictAt
  obtain ⟨od, es, hod, hcd, hdd, hk, hpr, hn⟩ := id hat
  refine DT.callItems (es := es) (ep := ep) hs0 ⟨od, hod, hcd, hdd⟩ ?_
  have hf : H s.heap.objs.size = none := I.hok.fresh (Nat.le_refl _)
  exact ⟨.ref s.heap.objs.size, upd H s.heap.objs.size (DX.itemsO s.heap.objs.size a), I.laid (t' := s.toks) (fun b u e => Heap.get?_push_of_some _ e) (Nat.le_refl _) (DX.itemsO_ok (Heap.get?_push_size _ rfl)), rfl, q _ hf⟩
/-- tuples already laid are tracked -/
theorem trackT {pins : List (Addr × Obj)} {σ : L2.St} {H0 : Hp} {s : Shared} {h' : Heap} {tk : Nat} (I0 : Inv X pins σ H0 s) : ∀ (as : List Addr) (kvs : List (Key × V)) (H1 : Hp), Inv X pins σ H1 { s with heap := h', toks := tk } → as.Nodup → as.length = kvs.length →
    (∀ a ∈ as, s.heap.objs.size ≤ a ∧ H1 a = none) → (∀ (j : Nat) (a : Addr) (p : Key × V), as[j]? = some a → kvs[j]? = some p → ∀ H2, ObjOk X.prog X.w H2 h' a (.tup [kV p.1, p.2])) → Inv X pins σ (LiI.putT H1 as kvs) { s with heap := h', toks := tk }
  | [], kvs, H1, I1, _, _, _, _ => by cases kvs <;> exact I1
  | a :: as, [], H1, I1, _, hl, _, _ => by cases hl
  | a :: as, p :: kvs, H1, I1, hn, hl, h, hp => by
    obtain ⟨hb, hnone⟩ := h a List.mem_cons_self
    have I2 : Inv X pins σ (upd H1 a (.tup [kV p.1, p.2])) { s with heap := h', toks := tk } := I1.take (h' := h') (t' := tk) (fun b ob _ e => e) (I0.fpOk hb hnone) (hp 0 a p rfl rfl _)
    rw [List.nodup_cons] at hn
    show Inv X pins σ (LiI.putT (upd H1 a (.tup [kV p.1, p.2])) as kvs) _
    refine trackT I0 as kvs _ I2 hn.2 (Nat.succ.inj hl) (fun c hc => ?_) fun j b q e1 e2 => hp (j + 1) b q e1 e2
    obtain ⟨c1, c2⟩ := h c (List.mem_cons_of_mem _ hc)
    exact ⟨c1, by rw [upd_ne (fun z => hn.1 (by rw [← z]; exact hc))]; exact c2⟩
abbrev Ent := Key × V × PyData
def Ent.kv (e : Ent) : Key × V := (e.1, e.2.1)
def Ent.d (e : Ent) : PyData := .tuple [kD e.1, e.2.2]
abbrev leE (b c : Addr × Ent) : Bool := PySem.W.sortLe (PyProof.Rows.listOrd PyProof.Rows.itemOrd) false (fun b : Addr × Ent => PySem.W.keyToks b.2.d) b c
def rSortIt (X : Cx) : List V → Hp → VK → Prop := fun xs H Q => ∃ (p a : Addr) (es : List Ent), xs = [.ref p] ∧ H p = some (DX.itemsO p a) ∧ H a = some (.dK (es.map Ent.kv)) ∧ (∀ e ∈ es, Dp X.K H e.2.1 e.2.2) ∧
  PySem.W.AllAlike (es.map Ent.d) ∧ SrtOk (es.map Ent.d) ∧ (∀ d ∈ es.map Ent.d, d.depth ≤ 60) ∧
  ∀ (as : List Addr) (p' : Addr), as.length = es.length → as.Nodup → (∀ t ∈ as, H t = none) → p' ∉ as → H p' = none →
    Q (.ref p') (upd (LiI.putT H as (es.map Ent.kv)) p' (.lst (((as.zip es).mergeSort leE).map fun t => V.ref t.1)))
theorem dp_key {K : PySem.W.Frag} {H : Hp} : ∀ k : Key, Dp K H (kV k) (kD k)
  | .inl i => .int i
  | .inr x => .str x
theorem putT_in {as : List Addr} {es : List Ent} {H : Hp} (hl : as.length = es.length) (nd : as.Nodup) {t : Addr × Ent} (ht : t ∈ as.zip es) : LiI.putT H as (es.map Ent.kv) t.1 = some (.tup [kV t.2.1, t.2.2.1]) := by
  obtain ⟨j, hj⟩ := List.mem_iff_getElem?.mp ht
  obtain ⟨h1, h2⟩ := List.getElem?_zip_eq_some.mp hj
  obtain ⟨y, e1, e2⟩ := LiI.paired_get (LiI.putT_at as (es.map Ent.kv) H (by rw [List.length_map]; exact hl) nd) h1
  rw [List.getElem?_map, h2] at e1
  cases e1
  exact e2
theorem putT_up {as : List Addr} {kvs : List (Key × V)} {H : Hp} (new : ∀ t ∈ as, H t = none) {b : Addr} {o : HO} (e : H b = some o) : LiI.putT H as kvs b = some o := by
  rw [LiI.putT_off as kvs H fun z => by rw [new b z] at e; cases e]
  exact e
mutual
theorem dp_up {K : PySem.W.Frag} {H H' : Hp} (up : ∀ b o, H b = some o → H' b = some o) : ∀ {v : V} {d : PyData}, Dp K H v d → Dp K H' v d
  | _, _, .non => .non
  | _, _, .bl b => .bl b
  | _, _, .int i => .int i
  | _, _, .str x => .str x
  | _, _, .lst h r => .lst (h.imp (fun z => z.imp (up _ _) fun ⟨o, y⟩ => ⟨o, up _ _ y⟩) id) (dps_up up r)
  | _, _, .tup h r => .tup (h.imp (fun z => z.imp (up _ _) fun ⟨o, y⟩ => ⟨o, up _ _ y⟩) id) (dps_up up r)
theorem dps_up {K : PySem.W.Frag} {H H' : Hp} (up : ∀ b o, H b = some o → H' b = some o) : ∀ {vs : List V} {ds : List PyData}, DpAll K H vs ds → DpAll K H' vs ds
  | _, _, .nil => .nil
  | _, _, .cons h r => .cons (dp_up up h) (dps_up up r)
end
theorem cr_sortIt (hc : X.calm = true) (hu : X.A.units + 64 < cLine) : CallR X (.builtin "sorted") (rSortIt X) := by
  intro pins s σ H xs us Q I r h
  obtain ⟨p, a, es, rfl, hp, ha, hd, al, so, dp, q⟩ := h
  rw [Vals.ref1 r]
  have view : s.heap.IsItemsView p a := (show ObjOk X.prog X.w H s.heap p (DX.itemsO p a) from I.hok p _ hp).1
  obtain ⟨hz, hs0, vs, kv, hdo⟩ := I.hok a _ ha
  obtain ⟨ep, hat⟩ := hdo.dictAt
  obtain ⟨od, ents, hod, hcd, hdd, hk, hpr, hn⟩ := id hat
  have lv : (es.map Ent.kv).length = vs.length := Paired.length kv
  rw [List.length_map] at lv hz
  have hsz : ents.size = vs.length := by rw [← hpr.length]; simp
  refine Calls.call_function_entry PyProof.Rows.kind_sorted PyProof.Rows.plain_sorted PyProof.Rows.entry_sorted (PyProof.Rows.args_sorted1 _) ?_
  unfold Builtin.«sorted»
  refine wpAny_bind (m := checkCount "sorted" 1 1 _) (wpAny_pure (wpAny_bind (DT.collectI (A := X.A.in1) (es := ents) (ep := ep) (I.ok.hd hc) view ⟨od, hod, hcd, hdd⟩ (by omega) fun h' tk as hk' hlt hl hG => ?_)))
  have nd : as.Nodup := List.Pairwise.imp (fun h => Nat.ne_of_lt h) hG.rise
  have lae : as.length = es.length := by omega
  have I0 : Inv X pins σ H { s with heap := h', toks := tk } := I.kept (t' := tk) hk'
  have new : ∀ t ∈ as, H t = none := fun t ht => I.hok.fresh (Nat.le_of_lt (hG.above t ht))
  have I1 : Inv X pins σ (LiI.putT H as (es.map Ent.kv)) { s with heap := h', toks := tk } := trackT I as (es.map Ent.kv) H I0 nd (by rw [List.length_map]; omega) (fun t ht => ⟨Nat.le_of_lt (hG.above t ht), new t ht⟩) fun j b pk e1 e2 H2 => by
    obtain ⟨en, he, hg⟩ := hG.pairs j b e1
    obtain ⟨qv, g1, g2, g3⟩ := LiI.paired_get kv e2
    obtain ⟨hkey, hval⟩ := hpr.get? (e := en) (by simpa using he) g1
    have rk : RelV (kV pk.1) en.key := by
      rw [g2]
      exact relV_key (show keyIs qv.1 en.key = true from hkey)
    exact ⟨by show 2 ≤ sizeLine; decide, [en.key, en.val], .cons rk (.cons (by rw [hval]; exact g3) .nil), ⟨_, hg, rfl, _, rfl⟩⟩
  have up : ∀ b o, H b = some o → LiI.putT H as (es.map Ent.kv) b = some o := fun b o e => putT_up new e
  have eas : as = (as.zip es).map (·.1) := (List.map_fst_zip (by omega)).symm
  have ees : es = (as.zip es).map (·.2) := (List.map_snd_zip (by omega)).symm
  obtain ⟨ts, ets⟩ : ∃ ts, ts = as.zip es := ⟨_, rfl⟩
  have hdt : ∀ t ∈ ts, Dp X.K (LiI.putT H as (es.map Ent.kv)) (V.ref t.1) t.2.d := fun t ht => by
    subst ets
    have hm : t.2 ∈ es := by rw [ees]; exact List.mem_map.mpr ⟨t, ht, rfl⟩
    exact .tup (.inl (.inl (putT_in lae nd ht))) (.cons (dp_key _) (.cons (dp_up up (hd _ hm)) .nil))
  have eds : ts.map (fun t => t.2.d) = es.map Ent.d := by
    subst ets
    conv => rhs; rw [ees]
    rw [List.map_map]
    rfl
  have erf : as.map Value.ref = (ts.map fun t => ((t.1, t.2.d) : Addr × PyData)).map fun c => Value.ref c.1 := by
    subst ets
    rw [List.map_map]
    conv => lhs; rw [eas]
    rw [List.map_map]
    rfl
  have lts : ts.length = es.length := by rw [ets, List.length_zip]; omega
  rw [erf]
  have hdc : ∀ c ∈ ts.map fun t => ((t.1, t.2.d) : Addr × PyData), Dp X.K (LiI.putT H as (es.map Ent.kv)) (V.ref c.1) c.2 := fun c hc => by
    obtain ⟨t, ht, rfl⟩ := List.mem_map.mp hc
    exact hdt t ht
  have ecd : (ts.map fun t => ((t.1, t.2.d) : Addr × PyData)).map (·.2) = es.map Ent.d := by rw [List.map_map, ← eds]; rfl
  have lcs : (ts.map fun t => ((t.1, t.2.d) : Addr × PyData)).length ≤ sizeLine := by rw [List.length_map]; omega
  have efin : ((ts.map fun t => ((t.1, t.2.d) : Addr × PyData)).mergeSort leK).map (fun c => V.ref c.1) = (ts.mergeSort leE).map fun t => V.ref t.1 := by
    have z := PySem.W.sort_maps (fun t : Addr × Ent => ((t.1, t.2.d) : Addr × PyData)) (r := leE) (s := leK) (l := ts) fun a _ b _ => rfl
    rw [← z, List.map_map]
    rfl
  generalize (ts.map fun t => ((t.1, t.2.d) : Addr × PyData)) = cs' at erf hdc ecd lcs efin ⊢
  rw [← ecd] at al so dp
  obtain ⟨s1, es1⟩ : ∃ s1 : Shared, s1 = { s with heap := h', toks := tk } := ⟨_, rfl⟩
  rw [← es1] at I1 ⊢
  have hlt1 : s.heap.objs.size < s1.heap.objs.size := by rw [es1]; exact hlt
  have hnas : s1.heap.objs.size ∉ as := fun z => by
    have := hG.there z
    rw [es1] at this
    exact Nat.lt_irrefl _ this
  refine wpAny_bind (wpAny_newList ?_ (by rw [List.length_map]; exact lcs))
  have hoL : (s1.heap.push (seqObj "list" (cs'.map fun c => Value.ref c.1).toArray 0)).get? s1.heap.objs.size = some (seqObj "list" (cs'.map fun c => Value.ref c.1).toArray 0) := Heap.get?_push_size _ rfl
  have keep : ∀ b u, s1.heap.get? b = some u → (PySem.W.sortingHeap (s1.heap.push (seqObj "list" (cs'.map fun c => Value.ref c.1).toArray 0)) s1.heap.objs.size (cs'.map fun c => Value.ref c.1)).get? b = some u := fun b u e =>
    PySem.W.sortingHeap_old (Nat.ne_of_lt (Heap.lt_size e)) (Heap.get?_push_of_some _ e)
  have e1 := each_refs (h := PySem.W.sortingHeap (s1.heap.push (seqObj "list" (cs'.map fun c => Value.ref c.1).toArray 0)) s1.heap.objs.size (cs'.map fun c => Value.ref c.1)) (cs := cs') fun c hcm => by
    obtain ⟨as, ra⟩ := Dp.reads I1 c.2 (V.ref c.1) (.ref c.1) (hdc c hcm) rfl
    exact ⟨as, PyProof.Rows.Reads.keeps keep ra⟩
  have S := sorts_alike (prog := X.prog) (w := X.w) (A := X.A.in1.in1) (s := { s1 with heap := PySem.W.sortingHeap (s1.heap.push (seqObj "list" (cs'.map fun c => Value.ref c.1).toArray 0)) s1.heap.objs.size (cs'.map fun c => Value.ref c.1) })
    (each_map (fun _ _ z => z.2) e1) al so (fun d hm => by
      have := dp d hm
      show X.A.units + 1 + 1 + d.depth < cLine
      omega)
  refine wpAny_bind (wpAny_holding (wpAny_call_entry PyProof.Rows.slot_list_sort ⟨_, hoL, rfl⟩ PyProof.Rows.entry_list_sort
    (PySem.W.list_sort_vals (s := { s1 with heap := s1.heap.push (seqObj "list" (cs'.map fun c => Value.ref c.1).toArray 0) }) hoL S (by rw [List.length_map]; exact lcs) ⟨_, rfl, ?_⟩) (PyProof.Rows.args_list_sort _)))
  have key : PySem.W.EachIs (fun v (b : Addr × PyData) => (PySem.W.dataKind (PySem.W.sortingHeap (s1.heap.push (seqObj "list" (cs'.map fun c => Value.ref c.1).toArray 0)) s1.heap.objs.size (cs'.map fun c => Value.ref c.1)) (cs'.map (·.2))).keyOf v = some (PySem.W.keyToks b.2)) (cs'.map fun c => Value.ref c.1) cs' :=
    (PySem.W.each_mem e1).mono fun u b z => by
      obtain ⟨⟨_, as, ra⟩, hb⟩ := z
      exact PySem.W.dataKind_some al (List.mem_map.mpr ⟨b, hb, rfl⟩) ra
  have out := PySem.W.sortVals_each (κ := PySem.W.dataKind (PySem.W.sortingHeap (s1.heap.push (seqObj "list" (cs'.map fun c => Value.ref c.1).toArray 0)) s1.heap.objs.size (cs'.map fun c => Value.ref c.1)) (cs'.map (·.2))) (rev := false) (fun b : Addr × PyData => PySem.W.keyToks b.2) (e1.mono fun u b h => h.1) key
  have eo := each_eq out
  rw [eo]
  obtain ⟨e2, he2⟩ := PyProof.Rows.sortedHeap_at (vs := cs'.map fun c => Value.ref c.1) (out := (((cs'.mergeSort leK).map fun c => Value.ref c.1)).toArray) hoL
  have yl : ((cs'.mergeSort leK).map fun c => V.ref c.1).length ≤ sizeLine := by rw [List.length_map, List.length_mergeSort]; exact lcs
  have qf := q as s1.heap.objs.size lae nd new hnas (I.hok.fresh (Nat.le_of_lt hlt1))
  rw [← ets, ← efin] at qf
  refine wpAny_pure ⟨_, rfl, .ref s1.heap.objs.size, _, I1.laid (t' := s1.toks) (fun b u e => ?_) (Nat.le_refl _) (show ObjOk X.prog X.w _ _ _ (.lst ((cs'.mergeSort leK).map fun c => V.ref c.1)) from ⟨yl, _, e2, vals_refs _, he2⟩), rfl, qf⟩
  have hb : b < s1.heap.objs.size := Heap.lt_size e
  rw [PyProof.Rows.sortedHeap_old (Nat.ne_of_lt hb) (by rw [size_push']; exact Nat.lt_succ_of_lt hb)]
  exact Heap.get?_push_of_some _ e
end
end DL

set_option Elab.async false
set_option linter.all false
set_option maxRecDepth 100000
set_option maxHeartbeats 1000000
namespace DL
open PySem PySem.Spec L2 PyProof.Rows
section
variable {X : Cx} {Wx : WX}
/-! ### new tuples in a world -/
def Wd.newT (w : Wd) (as : List Addr) (kvs : List (Key × V)) : Wd := ⟨w.m, w.S, LiI.putT w.H as kvs, w.r⟩
theorem newT_ok {K : KM} : ∀ (as : List Addr) (kvs : List (Key × V)) (w : Wd), SR K w → (∀ a ∈ as, w.H a = none) → as.Nodup → SR K (w.newT as kvs) ∧ Stp w (w.newT as kvs)
  | [], kvs, w, s, _, _ => by
    have e : w.newT [] kvs = w := by cases kvs <;> rfl
    rw [e]
    exact ⟨s, Stp.refl w⟩
  | a :: as, [], w, s, _, _ => ⟨s, Stp.refl w⟩
  | a :: as, p :: kvs, w, s, h, hn => by
    have ha := h a List.mem_cons_self
    rw [List.nodup_cons] at hn
    have s1 := s.new (o := .tup [kV p.1, p.2]) ha
    obtain ⟨s2, st2⟩ := newT_ok as kvs (w.new a (.tup [kV p.1, p.2])) s1 (fun c hc => by
      show upd w.H a _ c = none
      rw [upd_ne (fun z => hn.1 (by rw [← z]; exact hc))]
      exact h c (List.mem_cons_of_mem _ hc)) hn.2
    exact ⟨s2, (Stp.new s ha).trans st2⟩
def sortItC (u : U) (S : Sto) : R (List U) := match dictOf u S with
  | some (ks, us) => match toDs (itemsU ks us) with
    | some ds => guard (sortOk ds) (.ok (sortD (itemsU ks us)) S)
    | none => .bad
  | none => .bad
def aSortIt (fe : FE) : FA := fun d S => (fe d S).bind fun u S1 => sortItC u S1
/-- the rows of a dict -/
structure Row where
  k : Key
  u : U
  v : V
  d : PyData
def Row.e (r : Row) : Ent := (r.k, r.v, r.d)
def Row.it (r : Row) : U := .tup [kU r.k, r.u]
theorem kU_toD (k : Key) : toD (kU k) = some (kD k) := by cases k <;> rfl
theorem kU_vr {K : KM} {w : Wd} (k : Key) : VR K w (kU k) (kV k) := by
  cases k with
  | inl i => exact .int i
  | inr x => exact .str x
theorem rows_of {w : Wd} {us : List U} {xs : List V} (hx : VRs (KMof X) w us xs) : ∀ {ks : List Key} {ds : List PyData}, ks.length = us.length → toDs (itemsU ks us) = some ds →
    ∃ rs : List Row, rs.map (·.k) = ks ∧ rs.map (·.u) = us ∧ rs.map (·.v) = xs ∧ rs.map (fun r => r.e.d) = ds ∧ ∀ r ∈ rs, VR (KMof X) w r.u r.v ∧ toD r.u = some r.d := by
  induction us generalizing xs with
  | nil =>
    intro ks ds hl h
    cases hx
    cases ks with
    | nil => cases h; exact ⟨[], rfl, rfl, rfl, rfl, fun r hr => by cases hr⟩
    | cons k ks => cases hl
  | cons u us ih =>
    intro ks ds hl h
    cases ks with
    | nil => cases hl
    | cons k ks =>
      cases hx with
      | @cons _ _ v vs r rs =>
        unfold itemsU at h
        rw [List.zipWith_cons_cons] at h
        unfold toDs at h
        split at h
        · rename_i d ds e1 e2
          cases h
          obtain ⟨rr, h1, h2, h3, h4, h5⟩ := ih rs (ks := ks) (by simpa using hl) e2
          obtain ⟨d0, hd0, rfl⟩ : ∃ d0, toD u = some d0 ∧ d = .tuple [kD k, d0] := by
            unfold toD at e1
            unfold toDs at e1
            rw [kU_toD] at e1
            unfold toDs at e1
            cases q : toD u with
            | none => rw [q] at e1; cases e1
            | some d0 =>
              rw [q] at e1
              unfold toDs at e1
              cases e1
              exact ⟨d0, rfl, rfl⟩
          refine ⟨⟨k, u, v, d0⟩ :: rr, by rw [List.map_cons, h1], by rw [List.map_cons, h2], by rw [List.map_cons, h3], by rw [List.map_cons, h4]; rfl, fun q hq => ?_⟩
          rcases List.mem_cons.mp hq with rfl | hq
          · exact ⟨r, hd0⟩
          · exact h5 q hq
        · cases h
theorem dict_ty {u : U} {S : Sto} {p : List Key × List U} (h : dictOf u S = some p) : tyU "dict" u S = true := by
  cases u with
  | dic ks us => rfl
  | loc n =>
    unfold dictOf at h
    unfold tyU
    dsimp only at h ⊢
    split at h
    · rename_i e
      rw [e]
      rfl
    · cases h
  | _ => cases h
theorem items_rows : ∀ rs : List Row, itemsU (rs.map (·.k)) (rs.map (·.u)) = rs.map Row.it
  | [] => rfl
  | r :: rs => by
    show Row.it r :: itemsU (rs.map (·.k)) (rs.map (·.u)) = _
    rw [items_rows rs]
    rfl
theorem zip_rows : ∀ rs : List Row, (rs.map (·.k)).zip (rs.map (·.v)) = (rs.map Row.e).map Ent.kv
  | [] => rfl
  | r :: rs => by
    show (r.k, r.v) :: (rs.map (·.k)).zip (rs.map (·.v)) = _
    rw [zip_rows rs]
    rfl
theorem zip_maps {α β γ : Type} (f : β → γ) : ∀ (as : List α) (bs : List β), as.zip (bs.map f) = (as.zip bs).map fun p => (p.1, f p.2)
  | [], _ => rfl
  | _ :: _, [] => rfl
  | a :: as, b :: bs => by
    rw [List.map_cons, List.zip_cons_cons, zip_maps f as bs]
    rfl
theorem vrs_mk {α : Type} {w : Wd} {f : α → U} {g : α → V} : ∀ {l : List α}, (∀ t ∈ l, VR (KMof X) w (f t) (g t)) → VRs (KMof X) w (l.map f) (l.map g)
  | [], _ => .nil
  | t :: l, h => .cons (h t List.mem_cons_self) (vrs_mk fun u hu => h u (List.mem_cons_of_mem _ hu))
theorem sl_sortIt {e : Expr} {fe : FE} {p apos cpos pos : Pos} (hc : X.calm = true) (hu : X.A.units + 64 < cLine) (hg : Gl X "sorted") (hm : X.mg "sorted" = none) (he : SimE X Wx e fe)
    (hs : starEach [.Call (.Attribute e "items" apos) [] [] cpos] X.env = (false, eval (.Call (.Attribute e "items" apos) [] [] cpos) X.env) :: starEach [] X.env := by rfl)
    (hpl : (backTo pos (starEach [] X.env)).any (·.1) = false := by rfl) (hbase : attributeBase e "items" X.env (eval e X.env) = eval e X.env := by rfl) (hline : (apos.endLine == cpos.line) = true := by rfl) :
    SimL X Wx (.Call (.Name "sorted" p) [.Call (.Attribute e "items" apos) [] [] cpos] [] pos) (aSortIt fe) := by
  obtain ⟨te, pe, he⟩ := he.out
  have P1 := pe_bm0 (name := "items") (apos := apos) (cpos := cpos) PySem.F.plainAttrs_dict PySem.F.slot_dict_items PySem.F.type_dict_items mt_itemsK pe hbase hline
  have P2 := pe_callB (id := "sorted") (p := p) (pos := pos) (cr_sortIt hc hu) hg hm (by decide +kernel) (pa_cons P1 pa_nil hs) (by decide) (by decide) hs hpl
  refine SimL.mk P2 (fun w d σ Q s e h => ?_)
  refine he w d σ _ s e ((Pst.of_bind h).mono (fun u S1 h1 w1 v eS st s1 r => ?_) fun _ _ q => q)
  subst eS
  unfold sortItC at h1
  split at h1
  · rename_i ks us hd
    split at h1
    · rename_i ds hds
      obtain ⟨hs, h1⟩ := guard_post h1
      obtain ⟨al, so, dp⟩ := sortOk_ok hs
      obtain ⟨a, xs, rfl, hq, hl, rx⟩ := dictOf_ok s1 r hd
      refine ⟨tyU_ok s1 r (dict_ty hd), a, _, rfl, rfl, hq, fun p' hp' => ?_⟩
      obtain ⟨rs, e1, e2, e3, e4, hr⟩ := rows_of rx hl hds
      have st1 := Stp.new s1 (o := DX.itemsO p' a) hp'
      have s2 := s1.new (o := DX.itemsO p' a) hp'
      have hne : a ≠ p' := fun z => by rw [z, hp'] at hq; cases hq
      have ed : (rs.map Row.e).map Ent.d = ds := by rw [List.map_map]; exact e4
      have ekv : (rs.map Row.e).map Ent.kv = ks.zip xs := by rw [← zip_rows, e1, e3]
      show rSortIt X [.ref p'] (upd w1.H p' (DX.itemsO p' a)) Q
      refine ⟨p', a, rs.map Row.e, rfl, upd_same, by rw [ekv, upd_ne hne]; exact hq, fun en hen => ?_, by rw [ed]; exact al, by rw [ed]; exact so, by rw [ed]; exact dp, fun as p'' la nd new hp1 hp2 => ?_⟩
      · obtain ⟨r0, hr0, rfl⟩ := List.mem_map.mp hen
        exact toD_ok (w := w1.new p' (DX.itemsO p' a)) ((hr r0 hr0).1.ext st1.x s1) (hr r0 hr0).2
      · obtain ⟨s3, st3⟩ := newT_ok as ((rs.map Row.e).map Ent.kv) (w1.new p' (DX.itemsO p' a)) s2 new nd
        rw [List.length_map] at la
        have fin : ((as.zip rs).mergeSort fun a b => leD a.2.it b.2.it).map (fun t => t.2.it) = sortD (itemsU ks us) := by
          have z := PySem.W.sort_maps (fun t : Addr × Row => t.2.it) (r := fun a b => leD a.2.it b.2.it) (s := leD) (l := as.zip rs) fun a _ b _ => rfl
          rw [z]
          unfold sortD
          congr 1
          rw [← e1, ← e2, items_rows]
          conv => rhs; rw [← List.map_snd_zip (l₁ := as) (l₂ := rs) (by omega)]
          rw [List.map_map]
          rfl
        have m2 : ((as.zip rs).mergeSort fun a b => leD a.2.it b.2.it).map (fun t => ((t.1, t.2.e) : Addr × Ent)) = (as.zip (rs.map Row.e)).mergeSort leE := by
          rw [zip_maps]
          refine PySem.W.sort_maps (fun t : Addr × Row => ((t.1, t.2.e) : Addr × Ent)) fun a ha b hb => ?_
          have kd : ∀ t ∈ as.zip rs, dOf t.2.it = t.2.e.d := fun t ht => by
            have hm : t.2 ∈ rs := (List.of_mem_zip ht).2
            unfold dOf Row.it toD toDs
            rw [kU_toD]
            unfold toDs
            rw [(hr _ hm).2]
            rfl
          show (!PyProof.Rows.lexLt PyProof.Rows.itemOrd (PySem.W.keyToks (dOf b.2.it)) (PySem.W.keyToks (dOf a.2.it))) = (!PyProof.Rows.lexLt PyProof.Rows.itemOrd (PySem.W.keyToks b.2.e.d) (PySem.W.keyToks a.2.e.d))
          rw [kd a ha, kd b hb]
        have vr : ∀ t ∈ (as.zip rs).mergeSort fun a b => leD a.2.it b.2.it, VR (KMof X) ((w1.new p' (DX.itemsO p' a)).newT as ((rs.map Row.e).map Ent.kv)) t.2.it (V.ref t.1) := fun t ht => by
          have ht := (List.mergeSort_perm _ _).mem_iff.mp ht
          have hm : t.2 ∈ rs := (List.of_mem_zip ht).2
          have hz : (t.1, t.2.e) ∈ as.zip (rs.map Row.e) := by rw [zip_maps]; exact List.mem_map.mpr ⟨t, ht, rfl⟩
          exact .tup (TqT.of (putT_in (t := (t.1, t.2.e)) (by rw [List.length_map]; exact la) nd hz)) (.cons (kU_vr _) (.cons (((hr _ hm).1.ext st1.x s1).ext st3.x s2) .nil))
        have vs := vrs_mk (f := fun t : Addr × Row => t.2.it) (g := fun t => V.ref t.1) vr
        rw [fin] at vs
        have out := h1 ((w1.new p' (DX.itemsO p' a)).newT as ((rs.map Row.e).map Ent.kv)) p'' _ rfl (st.trans (st1.trans st3)) s3 vs (by
          show LiI.putT (upd w1.H p' (DX.itemsO p' a)) as ((rs.map Row.e).map Ent.kv) p'' = none
          rw [LiI.putT_off _ _ _ hp1]
          exact hp2)
        have m3 : ((as.zip (rs.map Row.e)).mergeSort leE).map (fun t => V.ref t.1) = ((as.zip rs).mergeSort fun a b => leD a.2.it b.2.it).map fun t => V.ref t.1 := by
          rw [← m2, List.map_map]
          rfl
        rw [m3]
        exact out
    · exact h1.elim
  · exact h1.elim
/-! ### zip -/
def zipU (us vs : List U) : List U := List.zipWith (fun a b => .tup [a, b]) us vs
def aZip (fa : FA) : FA := fun d S => (fa d S).bind fun us S1 => match us with
  | [u, v] => match lstV u, lstV v with
    | some us, some vs => .ok (zipU us vs) S1
    | _, _ => .bad
  | _ => .bad
theorem it_zip {K : KM} {w : Wd} {a b : Addr} {us vs : List U} (hk : ∀ w', Ext w w' → ∃ xs, SqL K w'.H a xs ∧ VRs K w' us xs) (hk2 : ∀ w', Ext w w' → ∃ xs, SqL K w'.H b xs ∧ VRs K w' vs xs) : ItSim K w (Itz K a b) (zipU us vs) := fun w' i x s => by
  obtain ⟨xs, hq, rs⟩ := hk w' x
  obtain ⟨ys, hq2, rs2⟩ := hk2 w' x
  refine ⟨fun u hu => ?_, fun h => ⟨xs, ys, hq, hq2, ?_⟩⟩
  · unfold zipU at hu
    rw [List.getElem?_zipWith] at hu
    cases e1 : us[i]? with
    | none => rw [e1] at hu; cases hu
    | some y1 =>
      cases e2 : vs[i]? with
      | none => rw [e1, e2] at hu; cases hu
      | some y2 =>
        rw [e1, e2] at hu
        cases hu
        obtain ⟨z, hz, rz⟩ := rs.get e1
        obtain ⟨z2, hz2, rz2⟩ := rs2.get e2
        refine ⟨⟨xs, ys, z, z2, hq, hq2, hz, hz2⟩, fun v H' q => ?_⟩
        obtain ⟨T, x', y', rfl, hT, rfl, h1, h2⟩ := q
        have e := h1 xs hq
        rw [hz] at e
        cases e
        have e := h2 ys hq2
        rw [hz2] at e
        cases e
        have st := Stp.new s (o := .tup [z, z2]) hT
        exact ⟨w'.new T _, rfl, rfl, st, s.new hT, .tup (TqT.of upd_same) (.cons (rz.ext st.x s) (.cons (rz2.ext st.x s) .nil))⟩
  · unfold zipU at h
    rw [List.length_zipWith] at h
    rw [← rs.length, ← rs2.length]
    omega
theorem si_zip {a b : Expr} {fa : FA} {p pos tpos : Pos} {elts : List Expr} {kk : Nat} (hg : Gl X "zip") (hm : X.mg "zip" = none) (ha : SimA X Wx [a, b] fa) (hs : starEach [a, b] X.env = (false, eval a X.env) :: starEach [b] X.env := by rfl) (hpl : (backTo pos (starEach [b] X.env)).any (·.1) = false := by rfl) :
    SimI X Wx (.Tuple elts kk tpos) (.Call (.Name "zip" p) [a, b] [] pos) (aZip fa) := by
  obtain ⟨t, p, ha⟩ := ha.out
  refine ⟨_, pi_zip hg hm p hs hpl, fun w d σ Q s e h0 => ?_⟩
  refine ha w d σ _ s e ((Pst.of_bind h0).mono (fun us S1 h1 w1 vs eS st s1 rs => ?_) fun _ _ q => q)
  split at h1
  · split at h1
    · rename_i u v us vs hu hv
      cases rs with
      | cons r rs =>
        cases rs with
        | cons r2 rs =>
          cases rs
          obtain ⟨a, rfl, hk⟩ := lstV_ok r hu
          obtain ⟨b, rfl, hk2⟩ := lstV_ok r2 hv
          obtain ⟨xs, hq, _⟩ := hk w1 (Ext.refl w1) s1
          obtain ⟨ys, hq2, _⟩ := hk2 w1 (Ext.refl w1) s1
          exact ⟨a, b, xs, ys, rfl, hq, hq2, h1 w1 _ eS st s1 (it_zip (fun w' x => hk w' x s1) fun w' x => hk2 w' x s1)⟩
    · exact h1.elim
  · exact h1.elim
/-! ### xs[::-1], a list -/
def aRev (fe : FE) : FA := fun d S => (fe d S).bind fun u S1 => match DL.listOf u S1 with
  | some us => .ok us.reverse S1
  | none => .bad
theorem sl_rev {e : Expr} {fe : FE} {k : Nat} {p1 p2 p3 pos : Pos} (he : SimE X Wx e fe) : SimL X Wx (.Subscript e (.Slice none none (some (.UnaryOp .USub (.Constant (.int 1) k p1) p2)) p3) pos) (aRev fe) := by
  obtain ⟨te, pe, he⟩ := he.out
  refine SimL.mk (pe_revL pe) (fun w d σ Q s e h => he w d σ _ s e ((Pst.of_bind h).mono (fun u S1 h1 w1 v eS st s1 r => ?_) fun _ _ q => q))
  subst eS
  split at h1
  · rename_i us hu
    obtain ⟨a, xs, rfl, hq, rs⟩ := listOf_ok s1 r hu
    exact ⟨a, xs, rfl, hq, fun p hp => h1 w1 p _ rfl st s1 (vrs_rev rs) hp⟩
  · exact h1.elim
end
end DL

set_option Elab.async false
set_option linter.all false
set_option maxRecDepth 100000
namespace Law
open PySem PySem.Spec L2 DL
/-! ### the text -/
def topS (i : Nat) : Stmt := PySem.Challenge.pw_middlesay_k15_the_judge.main.body.getD i (.Pass ⟨0, 0, 0, 0⟩)
abbrev s_is_word : Stmt := topS 6
abbrev s_is_name : Stmt := topS 10
abbrev s_is_literal : Stmt := topS 11
abbrev s_is_clause : Stmt := topS 12
abbrev s_clause_of : Stmt := topS 13
abbrev s_is_part : Stmt := topS 14
abbrev s_is_number : Stmt := topS 21
abbrev s_met_clause : Stmt := topS 22
abbrev s_clause_of_step : Stmt := topS 23
abbrev s_clauses_of_steps : Stmt := topS 24
abbrev s_comes_to : Stmt := topS 26
abbrev s_law_tape : Stmt := topS 28
abbrev s_law_draw : Stmt := topS 29
abbrev s_law_words : Stmt := topS 30
abbrev s_law_clause : Stmt := topS 31
abbrev s_law_joined : Stmt := topS 32
abbrev s_law_fresh : Stmt := topS 33
abbrev s_law_grown : Stmt := topS 34
abbrev s_law_chain : Stmt := topS 35
abbrev s_law_padded : Stmt := topS 36
abbrev s_law : Stmt := topS 37
abbrev s_Chain___init__ : Stmt := clsM (topS 25) 0
abbrev s_Chain_last : Stmt := clsM (topS 25) 6
abbrev s_Chain_givens : Stmt := clsM (topS 25) 7
abbrev n_is_word : List Str := ["thing", "sign"]
theorem sc_is_word : FnScope n_is_word ["thing"] (defScope s_is_word) := ⟨rfl, rfl, rfl, by decide +kernel, rfl, by decide +kernel, by decide +kernel⟩
abbrev n_is_name : List Str := ["thing"]
theorem sc_is_name : FnScope n_is_name ["thing"] (defScope s_is_name) := ⟨rfl, rfl, rfl, by decide +kernel, rfl, by decide +kernel, by decide +kernel⟩
abbrev n_is_literal : List Str := ["thing"]
theorem sc_is_literal : FnScope n_is_literal ["thing"] (defScope s_is_literal) := ⟨rfl, rfl, rfl, by decide +kernel, rfl, by decide +kernel, by decide +kernel⟩
abbrev n_is_clause : List Str := ["thing", "names", "one"]
theorem sc_is_clause : FnScope n_is_clause ["thing"] (defScope s_is_clause) := ⟨rfl, rfl, rfl, by decide +kernel, rfl, by decide +kernel, by decide +kernel⟩
abbrev n_clause_of : List Str := ["literals", "found", "name", "yes"]
theorem sc_clause_of : FnScope n_clause_of ["literals"] (defScope s_clause_of) := ⟨rfl, rfl, rfl, by decide +kernel, rfl, by decide +kernel, by decide +kernel⟩
abbrev n_is_part : List Str := ["clause", "other", "one"]
theorem sc_is_part : FnScope n_is_part ["clause", "other"] (defScope s_is_part) := ⟨rfl, rfl, rfl, by decide +kernel, rfl, by decide +kernel, by decide +kernel⟩
abbrev n_is_number : List Str := ["thing", "most"]
theorem sc_is_number : FnScope n_is_number ["thing", "most"] (defScope s_is_number) := ⟨rfl, rfl, rfl, by decide +kernel, rfl, by decide +kernel, by decide +kernel⟩
abbrev n_met_clause : List Str := ["one", "other", "name", "left", "literal"]
theorem sc_met_clause : FnScope n_met_clause ["one", "other", "name"] (defScope s_met_clause) := ⟨rfl, rfl, rfl, by decide +kernel, rfl, by decide +kernel, by decide +kernel⟩
abbrev n_clause_of_step : List Str := ["thing", "clauses"]
theorem sc_clause_of_step : FnScope n_clause_of_step ["thing", "clauses"] (defScope s_clause_of_step) := ⟨rfl, rfl, rfl, by decide +kernel, rfl, by decide +kernel, by decide +kernel⟩
abbrev n_clauses_of_steps : List Str := ["steps", "found", "at", "step", "clause"]
theorem sc_clauses_of_steps : FnScope n_clauses_of_steps ["steps"] (defScope s_clauses_of_steps) := ⟨rfl, rfl, rfl, by decide +kernel, rfl, by decide +kernel, by decide +kernel⟩
abbrev n_comes_to : List Str := ["chain", "clauses", "clause", "one"]
theorem sc_comes_to : FnScope n_comes_to ["chain", "clauses", "clause"] (defScope s_comes_to) := ⟨rfl, rfl, rfl, by decide +kernel, rfl, by decide +kernel, by decide +kernel⟩
abbrev n_law_tape : List Str := ["_law_script"]
theorem sc_law_tape : FnScope n_law_tape ["_law_script"] (defScope s_law_tape) := ⟨rfl, rfl, rfl, by decide +kernel, rfl, by decide +kernel, by decide +kernel⟩
abbrev n_law_draw : List Str := ["_law_tape_here", "_law_many", "_law_spot", "_law_cells", "_law_cell", "_law_primes", "_law_prime", "_law_seed", "_law_found"]
theorem sc_law_draw : FnScope n_law_draw ["_law_tape_here", "_law_many"] (defScope s_law_draw) := ⟨rfl, rfl, rfl, by decide +kernel, rfl, by decide +kernel, by decide +kernel⟩
abbrev n_law_words : List Str := ["_law_tape_here", "_law_many", "_law_letters", "_law_own", "_law_base", "_law_found", "_law_k", "_law_letter", "_law_some", "_law_word", "_law_more"]
theorem sc_law_words : FnScope n_law_words ["_law_tape_here", "_law_many"] (defScope s_law_words) := ⟨rfl, rfl, rfl, by decide +kernel, rfl, by decide +kernel, by decide +kernel⟩
abbrev n_law_clause : List Str := ["_law_tape_here", "_law_names", "_law_few", "_law_left", "_law_found", "_law_k", "_law_name"]
theorem sc_law_clause : FnScope n_law_clause ["_law_tape_here", "_law_names", "_law_few"] (defScope s_law_clause) := ⟨rfl, rfl, rfl, by decide +kernel, rfl, by decide +kernel, by decide +kernel⟩
abbrev n_law_joined : List Str := ["_law_literals", "_law_found", "_law_names", "_law_name", "_law_yes"]
theorem sc_law_joined : FnScope n_law_joined ["_law_literals"] (defScope s_law_joined) := ⟨rfl, rfl, rfl, by decide +kernel, rfl, by decide +kernel, by decide +kernel⟩
abbrev n_law_fresh : List Str := ["_law_tape_here", "_law_many", "_law_words_here", "_law_word"]
theorem sc_law_fresh : FnScope n_law_fresh ["_law_tape_here", "_law_many"] (defScope s_law_fresh) := ⟨rfl, rfl, rfl, by decide +kernel, rfl, by decide +kernel, by decide +kernel⟩
abbrev n_law_grown : List Str := ["_law_tape_here", "_law_box", "_law_clause_here", "_law_deep", "_law_names", "_law_there", "_law_name", "_law_ways", "_law_one", "_law_other", "_law_i", "_law_j", "_law_k", "_law_literal"]
theorem sc_law_grown : FnScope n_law_grown ["_law_tape_here", "_law_box", "_law_clause_here", "_law_deep"] (defScope s_law_grown) := ⟨rfl, rfl, rfl, by decide +kernel, rfl, by decide +kernel, by decide +kernel⟩
abbrev n_law_chain : List Str := ["_law_tape_here", "_law_names", "_law_clause_here", "_law_left", "_law_deep", "_law_box"]
theorem sc_law_chain : FnScope n_law_chain ["_law_tape_here", "_law_names", "_law_clause_here", "_law_left", "_law_deep"] (defScope s_law_chain) := ⟨rfl, rfl, rfl, by decide +kernel, rfl, by decide +kernel, by decide +kernel⟩
abbrev n_law_padded : List Str := ["_law_tape_here", "_law_steps", "_law_clauses", "_law_names", "_law_found", "_law_behind", "_law_places", "_law_step", "_law_clause_here", "_law_k", "_law_more"]
theorem sc_law_padded : FnScope n_law_padded ["_law_tape_here", "_law_steps", "_law_clauses", "_law_names"] (defScope s_law_padded) := ⟨rfl, rfl, rfl, by decide +kernel, rfl, by decide +kernel, by decide +kernel⟩
abbrev n_law : List Str := ["_law_script", "_law_tape_here", "_law_names", "_law_turn", "_law_steps", "_law_clauses", "_law_chain_here", "_law_given", "_law_some", "_law_first", "_law_at", "_law_out", "_law_bent", "_law_lists", "_law_last", "_law_ends", "_law_each", "_law_end", "_law_step", "_law_due", "_law_kept", "_law_answer", "_law_k", "_law_name", "_law_yes", "_law_clause_here", "_law_one"]
theorem sc_law : FnScope n_law ["_law_script"] (defScope s_law) := ⟨rfl, rfl, rfl, by decide +kernel, rfl, by decide +kernel, by decide +kernel⟩
abbrev n_Chain___init__ : List Str := ["self", "steps"]
theorem sc_Chain___init__ : FnScope n_Chain___init__ ["self", "steps"] (defScope s_Chain___init__) := ⟨rfl, rfl, rfl, by decide +kernel, rfl, by decide +kernel, by decide +kernel⟩
abbrev n_Chain_last : List Str := ["self"]
theorem sc_Chain_last : FnScope n_Chain_last ["self"] (defScope s_Chain_last) := ⟨rfl, rfl, rfl, by decide +kernel, rfl, by decide +kernel, by decide +kernel⟩
abbrev n_Chain_givens : List Str := ["self", "step"]
theorem sc_Chain_givens : FnScope n_Chain_givens ["self"] (defScope s_Chain_givens) := ⟨rfl, rfl, rfl, by decide +kernel, rfl, by decide +kernel, by decide +kernel⟩
abbrev sx_NoStep : Stmt := clsInit (topS 1)
theorem scx_NoStep : FnScope ["self", "step"] ["self", "step"] (defScope sx_NoStep) := ⟨rfl, rfl, rfl, by decide +kernel, rfl, by decide +kernel, by decide +kernel⟩
/-! ### what each def does -/
abbrev i_is_word : Nat := 0
abbrev i_is_name : Nat := 1
abbrev i_is_literal : Nat := 2
abbrev i_is_clause : Nat := 3
abbrev i_clause_of : Nat := 4
abbrev i_is_part : Nat := 5
abbrev i_is_number : Nat := 6
abbrev i_met_clause : Nat := 7
abbrev i_clause_of_step : Nat := 8
abbrev i_clauses_of_steps : Nat := 9
abbrev i_comes_to : Nat := 10
abbrev i_law_tape : Nat := 11
abbrev i_law_draw : Nat := 12
abbrev i_law_words : Nat := 13
abbrev i_law_clause : Nat := 14
abbrev i_law_joined : Nat := 15
abbrev i_law_fresh : Nat := 16
abbrev i_law_grown : Nat := 17
abbrev i_law_chain : Nat := 18
abbrev i_law_padded : Nat := 19
abbrev i_law : Nat := 20
abbrev i_Chain___init__ : Nat := 21
abbrev i_Chain_last : Nat := 22
abbrev i_Chain_givens : Nat := 23
def c_FIGURES : U := (.str "0123456789")
def c_LETTERS : U := (.str "abcdefghijklmnopqrstuvwxyz")
def c_LONGEST_NAME : U := (.int 12)
def c_LONGEST_WORD : U := (.int 8)
def c_WORDS_OF_TEXTS : U := (.tup [(.str "not"), (.str "and"), (.str "or"), (.str "gives"), (.str "is"), (.str "yes"), (.str "no")])
def b_is_word (c : Nat → List U → Sto → R U) : FS :=
  (fSeq (fIfS (fOr (fNot (fTru (fA isiC (aCons (fVar 0) (aCons (fC (.ty "str")) aNil))))) (fNot (fB (fCh leU leU (fC (.int 1)) (fA lenC (aCons (fVar 0) aNil)) (fC c_LONGEST_WORD))))) (fRet (fC (.bl false))) fNop)
    (fRet (fAndV (fA allC (aCons (fVal (aComp (aOver strV (fVar 0)) (gN 1) fYes (f2 inU (fVar 1) (fC c_LETTERS)) [1])) aNil)) (f2 ninU (fVar 0) (fC c_WORDS_OF_TEXTS)))))
def b_is_name (c : Nat → List U → Sto → R U) : FS :=
  (fSeq (fIfS (fOr (fNot (fTru (fA isiC (aCons (fVar 0) (aCons (fC (.ty "str")) aNil))))) (fB (f2 gtU (fA lenC (aCons (fVar 0) aNil)) (fC c_LONGEST_NAME)))) (fRet (fC (.bl false))) fNop)
    (fRet (fCall 1 (c i_is_word) (aCons (fM "str" rstripM (fVar 0) (aCons (fC c_FIGURES) aNil)) aNil))))
def b_is_literal (c : Nat → List U → Sto → R U) : FS :=
  (fRet (fAndV (fA isiC (aCons (fVar 0) (aCons (fC (.ty "tuple")) aNil))) (fAndV (f2 eqU (fA lenC (aCons (fVar 0) aNil)) (fC (.int 2))) (fAndV (fCall 1 (c i_is_name) (aCons (f2 ixU (fVar 0) (fC (.int 0))) aNil)) (fA isiC (aCons (f2 ixU (fVar 0) (fC (.int 1))) (aCons (fC (.ty "bool")) aNil)))))))
def b_is_clause (c : Nat → List U → Sto → R U) : FS :=
  (fSeq (fIfS (fOr (fNot (fTru (fA isiC (aCons (fVar 0) (aCons (fC (.ty "tuple")) aNil))))) (fNot (fTru (fA allC (aCons (fVal (aComp (aOver tupV (fVar 0)) (gN 2) fYes (fCall 1 (c i_is_literal) (aCons (fVar 2) aNil)) [2])) aNil))))) (fRet (fC (.bl false))) fNop)
    (fSeq (fSet 1 (fVal (aComp (aOver tupV (fVar 0)) (gN 2) fYes (f2 ixU (fVar 2) (fC (.int 0))) [2])))
    (fRet (f2 eqU (fVar 1) (fVal (fA sortSetA (aCons (fVar 1) aNil)))))))
def b_clause_of (c : Nat → List U → Sto → R U) : FS :=
  (fSeq (fSet 1 (fDloc dNew))
    (fSeq (fFor (aOver lstV (fVar 0)) (gTup 2 (gCons (gN 2) (gCons (gN 3) gNil))) (fSeq (fIfS (fB (f2 neU (fM "dict" getM (fVar 1) (aCons (fVar 2) (aCons (fVar 3) aNil))) (fVar 3))) (fRet (fC .non)) fNop)
    (fStore (fVar 3) (fVar 1) (fVar 2))))
    (fRet (fA tupleC (aCons (fVal (aSortIt (fVar 1))) aNil)))))
def b_is_part (c : Nat → List U → Sto → R U) : FS :=
  (fRet (fA allC (aCons (fVal (aComp (aOver tupV (fVar 0)) (gN 2) fYes (f2 inAU (fVar 2) (fVar 1)) [2])) aNil)))
def b_is_number (c : Nat → List U → Sto → R U) : FS :=
  (fRet (fAndV (fA isiC (aCons (fVar 0) (aCons (fC (.ty "int")) aNil))) (fAndV (fNotV (fA isiC (aCons (fVar 0) (aCons (fC (.ty "bool")) aNil)))) (fCh leU ltU (fC (.int 0)) (fVar 0) (fVar 1)))))
def b_met_clause (c : Nat → List U → Sto → R U) : FS :=
  (fSeq (fIfS (fOr (fB (f2 ninAU (fTup (aCons (fVar 2) (aCons (fC (.bl true)) aNil))) (fVar 0))) (fB (f2 ninAU (fTup (aCons (fVar 2) (aCons (fC (.bl false)) aNil))) (fVar 1)))) (fRet (fC .non)) fNop)
    (fSeq (fSet 3 (fVal (aComp (aOver tupV (fVar 0)) (gN 4) (fB (f2 neU (fVar 4) (fTup (aCons (fVar 2) (aCons (fC (.bl true)) aNil))))) (fVar 4) [4])))
    (fRet (fCall 1 (c i_clause_of) (aCons (f2 addU (fVar 3) (fVal (aComp (aOver tupV (fVar 1)) (gN 4) (fB (f2 neU (fVar 4) (fTup (aCons (fVar 2) (aCons (fC (.bl false)) aNil))))) (fVar 4) [4]))) aNil)))))
def b_clause_of_step (c : Nat → List U → Sto → R U) : FS :=
  (fSeq (fIfS (fOr (fNot (fTru (fA isiC (aCons (fVar 0) (aCons (fC (.ty "tuple")) aNil))))) (fB (f2 ltU (fA lenC (aCons (fVar 0) aNil)) (fC (.int 1))))) (fRet (fC .non)) fNop)
    (fSeq (fIfS (fAnd (fB (f2 eqU (f2 ixU (fVar 0) (fC (.int 0))) (fC (.str "given")))) (fB (f2 eqU (fA lenC (aCons (fVar 0) aNil)) (fC (.int 2))))) (fRet (fIf (fTru (fCall 1 (c i_is_clause) (aCons (f2 ixU (fVar 0) (fC (.int 1))) aNil))) (f2 ixU (fVar 0) (fC (.int 1))) (fC .non))) fNop)
    (fSeq (fIfS (fOr (fB (f2 neU (f2 ixU (fVar 0) (fC (.int 0))) (fC (.str "met")))) (fOr (fB (f2 neU (fA lenC (aCons (fVar 0) aNil)) (fC (.int 4)))) (fNot (fTru (fCall 1 (c i_is_name) (aCons (f2 ixU (fVar 0) (fC (.int 3))) aNil)))))) (fRet (fC .non)) fNop)
    (fSeq (fIfS (fOr (fNot (fTru (fCall 2 (c i_is_number) (aCons (f2 ixU (fVar 0) (fC (.int 1))) (aCons (fA lenC (aCons (fVar 1) aNil)) aNil))))) (fNot (fTru (fCall 2 (c i_is_number) (aCons (f2 ixU (fVar 0) (fC (.int 2))) (aCons (fA lenC (aCons (fVar 1) aNil)) aNil)))))) (fRet (fC .non)) fNop)
    (fRet (fCall 3 (c i_met_clause) (aCons (f2 ixU (fVar 1) (f2 ixU (fVar 0) (fC (.int 1)))) (aCons (f2 ixU (fVar 1) (f2 ixU (fVar 0) (fC (.int 2)))) (aCons (f2 ixU (fVar 0) (fC (.int 3))) aNil)))))))))
def b_clauses_of_steps (c : Nat → List U → Sto → R U) : FS :=
  (fSeq (fIfS (fOr (fNot (fTru (fA isiC (aCons (fVar 0) (aCons (fTup (aCons (fC (.ty "list")) (aCons (fC (.ty "tuple")) aNil))) aNil))))) (fB (f2 eqU (fA lenC (aCons (fVar 0) aNil)) (fC (.int 0))))) (fRaise "NoStep" "step" (aCons (fC (.int 0)) aNil)) fNop)
    (fSeq (fSet 1 (fLoc (aLst aNil)))
    (fSeq (fFor (aEnum (aCons (fVar 0) aNil)) (gTup 2 (gCons (gN 2) (gCons (gN 3) gNil))) (fSeq (fSet 4 (fCall 2 (c i_clause_of_step) (aCons (fVar 3) (aCons (fVar 1) aNil))))
    (fSeq (fIfS (fB (f2 isU (fVar 4) (fC .non))) (fRaise "NoStep" "step" (aCons (fVar 2) aNil)) fNop)
    (fExpr (fM "list" appM (fVar 1) (aCons (fVar 4) aNil))))))
    (fRet (fIce (fVar 1))))))
def b_comes_to (c : Nat → List U → Sto → R U) : FS :=
  (fRet (fAndV (fA allC (aCons (fVal (aComp (aOver lstV (fMeth "Chain" "givens" 1 (c i_Chain_givens) (fVar 0) aNil)) (gN 3) fYes (f2 inU (fVar 3) (fVar 1)) [3])) aNil)) (fCall 2 (c i_is_part) (aCons (fMeth "Chain" "last" 1 (c i_Chain_last) (fVar 0) aNil) (aCons (fVar 2) aNil)))))
def b_law_tape (c : Nat → List U → Sto → R U) : FS :=
  (fRet (fDloc (dDisp [((fC (.str "cells")), (fSl (fVar 0) oNone (oSome (fC (.int 63))))), ((fC (.str "spot")), (fC (.int 0))), ((fC (.str "left")), (fC (.int 0)))])))
def b_law_draw (c : Nat → List U → Sto → R U) : FS :=
  (fSeq (fIfS (fB (f2 gtU (f2 ixU (fVar 0) (fC (.str "left"))) (fC (.int 0)))) (fSeq (fSet 8 (f2 modU (f2 ixU (fVar 0) (fC (.str "left"))) (fVar 1)))
    (fSeq (fStore (f2 fdivU (f2 ixU (fVar 0) (fC (.str "left"))) (fVar 1)) (fVar 0) (fC (.str "left")))
    (fRet (fVar 8)))) fNop)
    (fSeq (fSet 2 (f2 ixU (fVar 0) (fC (.str "spot"))))
    (fSeq (fStore (f2 addU (fVar 2) (fC (.int 1))) (fVar 0) (fC (.str "spot")))
    (fSeq (fSet 3 (fOrV (f2 ixU (fVar 0) (fC (.str "cells"))) (fVal (aLst (aCons (fC (.int 0)) aNil)))))
    (fSeq (fSet 4 (f2 ixU (fVar 3) (f2 modU (fVar 2) (fA lenC (aCons (fVar 3) aNil)))))
    (fSeq (fIfS (fAnd (fB (f2 geU (fVar 4) (f2 powU (fC (.int 10)) (fC (.int 18))))) (fB (f2 ltU (fVar 2) (fA lenC (aCons (fVar 3) aNil))))) (fSeq (fStore (f2 fdivU (f2 subU (fVar 4) (f2 powU (fC (.int 10)) (fC (.int 18)))) (fVar 1)) (fVar 0) (fC (.str "left")))
    (fRet (f2 modU (f2 subU (fVar 4) (f2 powU (fC (.int 10)) (fC (.int 18)))) (fVar 1)))) fNop)
    (fSeq (fSet 5 (fVal (aLst (aCons (fC (.int 2147483647)) (aCons (fC (.int 2147483629)) (aCons (fC (.int 2147483587)) (aCons (fC (.int 2147483579)) (aCons (fC (.int 2147483563)) (aCons (fC (.int 2147483549)) (aCons (fC (.int 2147483543)) aNil))))))))))
    (fSeq (fSet 6 (f2 ixU (fVar 5) (f2 modU (fVar 2) (fC (.int 7)))))
    (fSeq (fSet 7 (f2 modU (f2 addU (f2 addU (f2 addU (f2 mulU (f2 modU (fVar 4) (fVar 6)) (fC (.int 48271))) (f2 mulU (f2 mulU (fC (.int 7919)) (fVar 2)) (fVar 2))) (f2 mulU (fC (.int 69621)) (fVar 2))) (fC (.int 1))) (fVar 6)))
    (fSeq (fSet 7 (f2 modU (f2 mulU (fVar 7) (f2 addU (fVar 7) (fC (.int 16807)))) (f2 ixU (fVar 5) (f2 modU (f2 addU (fVar 2) (fC (.int 3))) (fC (.int 7))))))
    (fSeq (fSet 8 (f2 fdivU (f2 modU (f2 mulU (fVar 7) (fVar 7)) (fVar 6)) (fC (.int 64))))
    (fSeq (fIfS (fB (f2 gtU (fVar 1) (f2 powU (fC (.int 10)) (fC (.int 6))))) (fSet 8 (f2 addU (f2 modU (fVar 8) (f2 powU (fC (.int 10)) (fC (.int 6)))) (f2 mulU (f2 powU (fC (.int 10)) (fC (.int 6))) (fCall 2 (c i_law_draw) (aCons (fVar 0) (aCons (f2 addU (f2 fdivU (fVar 1) (f2 powU (fC (.int 10)) (fC (.int 6)))) (fC (.int 1))) aNil)))))) fNop)
    (fRet (f2 modU (fVar 8) (fVar 1)))))))))))))))
def b_law_words (c : Nat → List U → Sto → R U) : FS :=
  (fSeq (fSet 2 (fC (.str "abcdefghijklmnopqrstuvwxyz")))
    (fSeq (fSet 3 (fM "str" splitM (fC (.str "nota andy org isa yesno given noa same")) (aCons (fC (.str " ")) aNil)))
    (fSeq (fSet 4 (fM "str" joinM (fC (.str "")) (aCons (fVal (aComp (aRng1 (aCons (f2 addU (fC (.int 1)) (fCall 2 (c i_law_draw) (aCons (fVar 0) (aCons (fC (.int 6)) aNil)))) aNil)) (gN 6) fYes (f2 ixU (fVar 2) (fCall 2 (c i_law_draw) (aCons (fVar 0) (aCons (fC (.int 26)) aNil)))) [6])) aNil)))
    (fSeq (fSet 5 (fLoc (aLst aNil)))
    (fSeq (fFor (aRng1 (aCons (fVar 1) aNil)) (gN 6) (fSeq (fSet 7 (f2 ixU (fVar 2) (fCall 2 (c i_law_draw) (aCons (fVar 0) (aCons (fC (.int 26)) aNil)))))
    (fSeq (fSet 8 (fVal (aLst (aCons (fVar 4) (aCons (f2 addU (fVar 4) (fVar 7)) (aCons (f2 addU (fVar 7) (fVar 4)) (aCons (fVar 7) (aCons (f2 addU (f2 addU (fVar 4) (fVar 7)) (fVar 7)) (aCons (f2 ixU (fVar 3) (fCall 2 (c i_law_draw) (aCons (fVar 0) (aCons (fC (.int 8)) aNil)))) aNil)))))))))
    (fSeq (fSet 9 (fSl (f2 ixU (fVar 8) (fCall 2 (c i_law_draw) (aCons (fVar 0) (aCons (fC (.int 6)) aNil)))) oNone (oSome (fC (.int 8)))))
    (fSeq (fFor (aOver strV (fVar 2)) (gN 10) (fIfS (fOr (fB (f2 inU (fVar 9) (fVar 5))) (fB (f2 inU (fVar 9) (fTup (aCons (fC (.str "not")) (aCons (fC (.str "and")) (aCons (fC (.str "or")) (aCons (fC (.str "gives")) (aCons (fC (.str "is")) (aCons (fC (.str "yes")) (aCons (fC (.str "no")) aNil))))))))))) (fSet 9 (f2 addU (fSl (fVar 9) oNone (oSome (fC (.int 7)))) (fVar 10))) fNop))
    (fExpr (fM "list" appM (fVar 5) (aCons (fVar 9) aNil))))))))
    (fRet (fIce (fVar 5))))))))
def b_law_clause (c : Nat → List U → Sto → R U) : FS :=
  (fSeq (fSet 3 (fLoc (fA listC (aCons (fVar 1) aNil))))
    (fSeq (fSet 4 (fLoc (aLst aNil)))
    (fSeq (fFor (aRng1 (aCons (fCall 2 (c i_law_draw) (aCons (fVar 0) (aCons (f2 addU (fVar 2) (fC (.int 1))) aNil))) aNil)) (gN 5) (fIfS (fB (f2 neU (fVar 3) (fVal (aLst aNil)))) (fSeq (fSet 6 (fM "list" popLM (fVar 3) (aCons (fCall 2 (c i_law_draw) (aCons (fVar 0) (aCons (fA lenC (aCons (fVar 3) aNil)) aNil))) aNil)))
    (fExpr (fM "list" appM (fVar 4) (aCons (fTup (aCons (fVar 6) (aCons (f2 eqU (fCall 2 (c i_law_draw) (aCons (fVar 0) (aCons (fC (.int 2)) aNil))) (fC (.int 1))) aNil))) aNil)))) fNop))
    (fRet (fA tupleC (aCons (fVal (fA sortedA (aCons (fVar 4) aNil))) aNil))))))
def b_law_joined (c : Nat → List U → Sto → R U) : FS :=
  (fSeq (fSet 1 (fVal (fA sortSetA (aCons (fVar 0) aNil))))
    (fSeq (fSet 2 (fVal (aComp (aOver lstV (fVar 1)) (gTup 2 (gCons (gN 3) (gCons (gN 4) gNil))) fYes (fVar 3) [3, 4])))
    (fRet (fIf (fB (f2 eqU (fA lenSetA (aCons (fVar 2) aNil)) (fA lenC (aCons (fVar 2) aNil)))) (fA tupleC (aCons (fVar 1) aNil)) (fC .non)))))
def b_law_fresh (c : Nat → List U → Sto → R U) : FS :=
  (fSeq (fSet 2 (fCall 2 (c i_law_words) (aCons (fVar 0) (aCons (fVar 1) aNil))))
    (fRet (fVal (aComp (aOver lstV (fVar 2)) (gN 3) fYes (f2 addU (fSl (fVar 3) oNone (oSome (fC (.int 8)))) (f2 ixU (fVal (aLst (aCons (fC (.str "")) (aCons (fC (.str "")) (aCons (fC (.str "0")) (aCons (fC (.str "1")) (aCons (fC (.str "10")) (aCons (fC (.str "9")) aNil)))))))) (fCall 2 (c i_law_draw) (aCons (fVar 0) (aCons (fC (.int 6)) aNil))))) [3]))))
def b_law_grown (c : Nat → List U → Sto → R U) : FS :=
  (fSeq (fSet 4 (fVal (aComp (aOver lstV (f2 ixU (fVar 1) (fC (.str "names")))) (gN 6) (fAnd (fB (f2 ninAU (fTup (aCons (fVar 6) (aCons (fC (.bl true)) aNil))) (fVar 2))) (fB (f2 ninAU (fTup (aCons (fVar 6) (aCons (fC (.bl false)) aNil))) (fVar 2)))) (fVar 6) [6])))
    (fSeq (fSet 5 (fVal (aComp (aRng1 (aCons (fA lenC (aCons (f2 ixU (fVar 1) (fC (.str "clauses"))) aNil)) aNil)) (gN 12) (fB (f2 eqU (f2 ixU (f2 ixU (fVar 1) (fC (.str "clauses"))) (fVar 12)) (fVar 2))) (fVar 12) [12])))
    (fSeq (fIfS (fAnd (fB (f2 neU (fVar 5) (fVal (aLst aNil)))) (fB (f2 gtU (fCall 2 (c i_law_draw) (aCons (fVar 0) (aCons (fC (.int 3)) aNil))) (fC (.int 0))))) (fRet (f2 ixU (fVar 5) (f1 negU (fC (.int 1))))) fNop)
    (fSeq (fIfS (fOr (fB (f2 eqU (fVar 4) (fVal (aLst aNil)))) (fOr (fB (f2 ltU (fVar 3) (fC (.int 1)))) (fOr (fB (f2 ltU (f2 ixU (fVar 1) (fC (.str "left"))) (fC (.int 1)))) (fAnd (fB (f2 neU (fVar 2) (fTup aNil))) (fB (f2 eqU (fCall 2 (c i_law_draw) (aCons (fVar 0) (aCons (fC (.int 5)) aNil))) (fC (.int 0)))))))) (fExpr (fM "list" appM (f2 ixU (fVar 1) (fC (.str "steps"))) (aCons (fTup (aCons (fC (.str "given")) (aCons (fVar 2) aNil))) aNil))) (fSeq (fStore (f2 subU (f2 ixU (fVar 1) (fC (.str "left"))) (fC (.int 1))) (fVar 1) (fC (.str "left")))
    (fSeq (fSet 6 (f2 ixU (fVar 4) (fCall 2 (c i_law_draw) (aCons (fVar 0) (aCons (fA lenC (aCons (fVar 4) aNil)) aNil)))))
    (fSeq (fSet 7 (fVal (aComp (aOver tupV (fVar 2)) (gN 13) fYes (fCall 2 (c i_law_draw) (aCons (fVar 0) (aCons (fC (.int 3)) aNil))) [13])))
    (fSeq (fSet 8 (f2 addU (fVal (aComp (aRng1 (aCons (fA lenC (aCons (fVar 2) aNil)) aNil)) (gN 12) (fB (f2 ltU (f2 ixU (fVar 7) (fVar 12)) (fC (.int 2)))) (f2 ixU (fVar 2) (fVar 12)) [12])) (fVal (aLst (aCons (fTup (aCons (fVar 6) (aCons (fC (.bl true)) aNil))) aNil)))))
    (fSeq (fSet 9 (f2 addU (fVal (aComp (aRng1 (aCons (fA lenC (aCons (fVar 2) aNil)) aNil)) (gN 12) (fB (f2 gtU (f2 ixU (fVar 7) (fVar 12)) (fC (.int 0)))) (f2 ixU (fVar 2) (fVar 12)) [12])) (fVal (aLst (aCons (fTup (aCons (fVar 6) (aCons (fC (.bl false)) aNil))) aNil)))))
    (fSeq (fSet 10 (fCall 4 (c i_law_grown) (aCons (fVar 0) (aCons (fVar 1) (aCons (fA tupleC (aCons (fVal (fA sortedA (aCons (fVar 8) aNil))) aNil)) (aCons (f2 subU (fVar 3) (fC (.int 1))) aNil))))))
    (fSeq (fSet 11 (fCall 4 (c i_law_grown) (aCons (fVar 0) (aCons (fVar 1) (aCons (fA tupleC (aCons (fVal (fA sortedA (aCons (fVar 9) aNil))) aNil)) (aCons (f2 subU (fVar 3) (fC (.int 1))) aNil))))))
    (fExpr (fM "list" appM (f2 ixU (fVar 1) (fC (.str "steps"))) (aCons (fTup (aCons (fC (.str "met")) (aCons (fVar 10) (aCons (fVar 11) (aCons (fVar 6) aNil))))) aNil)))))))))))
    (fSeq (fExpr (fM "list" appM (f2 ixU (fVar 1) (fC (.str "clauses"))) (aCons (fVar 2) aNil)))
    (fRet (f2 subU (fA lenC (aCons (f2 ixU (fVar 1) (fC (.str "clauses"))) aNil)) (fC (.int 1)))))))))
def b_law_chain (c : Nat → List U → Sto → R U) : FS :=
  (fSeq (fSet 5 (fDloc (dDisp [((fC (.str "names")), (fVar 1)), ((fC (.str "steps")), (fLoc (aLst aNil))), ((fC (.str "clauses")), (fLoc (aLst aNil))), ((fC (.str "left")), (fVar 3))])))
    (fSeq (fExpr (fCall 4 (c i_law_grown) (aCons (fVar 0) (aCons (fVar 5) (aCons (fVar 2) (aCons (fVar 4) aNil))))))
    (fRet (fTup (aCons (fIce (f2 ixU (fVar 5) (fC (.str "steps")))) (aCons (fIce (f2 ixU (fVar 5) (fC (.str "clauses")))) aNil))))))
def b_law_padded (c : Nat → List U → Sto → R U) : FS :=
  (fSeq (fSet 4 (fLoc (aLst aNil)))
    (fSeq (fSet 5 (fLoc (aLst aNil)))
    (fSeq (fSet 6 (fLoc (aLst aNil)))
    (fSeq (fFor (aZip (aCons (fVar 1) (aCons (fVar 2) aNil))) (gTup 2 (gCons (gN 7) (gCons (gN 8) gNil))) (fSeq (fFor (aRng1 (aCons (fA maxC (aCons (fC (.int 0)) (aCons (f2 subU (fCall 2 (c i_law_draw) (aCons (fVar 0) (aCons (fC (.int 6)) aNil))) (fC (.int 4))) aNil))) aNil)) (gN 9) (fSeq (fSet 10 (f2 ixU (fVal (aLst (aCons (fTup (aCons (fC (.str "given")) (aCons (fVar 8) aNil))) (aCons (fTup (aCons (fC (.str "given")) (aCons (fCall 3 (c i_law_clause) (aCons (fVar 0) (aCons (fVar 3) (aCons (fC (.int 4)) aNil)))) aNil))) aNil)))) (fCall 2 (c i_law_draw) (aCons (fVar 0) (aCons (fC (.int 2)) aNil)))))
    (fSeq (fExpr (fM "list" appM (fVar 4) (aCons (fVar 10) aNil)))
    (fExpr (fM "list" appM (fVar 5) (aCons (f2 ixU (fVar 10) (fC (.int 1))) aNil))))))
    (fSeq (fExpr (fM "list" appM (fVar 4) (aCons (fIf (fB (f2 eqU (f2 ixU (fVar 7) (fC (.int 0))) (fC (.str "given")))) (fVar 7) (fTup (aCons (fC (.str "met")) (aCons (f2 ixU (fVar 6) (f2 ixU (fVar 7) (fC (.int 1)))) (aCons (f2 ixU (fVar 6) (f2 ixU (fVar 7) (fC (.int 2)))) (aCons (f2 ixU (fVar 7) (fC (.int 3))) aNil)))))) aNil)))
    (fSeq (fExpr (fM "list" appM (fVar 5) (aCons (fVar 8) aNil)))
    (fExpr (fM "list" appM (fVar 6) (aCons (f2 subU (fA lenC (aCons (fVar 4) aNil)) (fC (.int 1))) aNil)))))))
    (fRet (fTup (aCons (fIce (fVar 4)) (aCons (fIce (fVar 5)) aNil))))))))
def b_law (c : Nat → List U → Sto → R U) : FS :=
  (fSeq (fSet 1 (fCall 1 (c i_law_tape) (aCons (fVar 0) aNil)))
    (fSeq (fSet 2 (fCall 2 (c i_law_fresh) (aCons (fVar 1) (aCons (fC (.int 6)) aNil))))
    (fSeq (fFor (aRng1 (aCons (fC (.int 6)) aNil)) (gN 3) (fSeq (fAsg (gTup 2 (gCons (gN 4) (gCons (gN 5) gNil))) (fCall 5 (c i_law_chain) (aCons (fVar 1) (aCons (fVar 2) (aCons (fCall 3 (c i_law_clause) (aCons (fVar 1) (aCons (fVar 2) (aCons (fC (.int 3)) aNil)))) (aCons (f2 ixU (fVal (aLst (aCons (fC (.int 3)) (aCons (fC (.int 12)) (aCons (fC (.int 40)) aNil))))) (f2 modU (fVar 3) (fC (.int 3)))) (aCons (fC (.int 5)) aNil)))))))
    (fSeq (fIfS (fB (f2 gtU (fVar 3) (fC (.int 2)))) (fAsg (gTup 2 (gCons (gN 4) (gCons (gN 5) gNil))) (fCall 4 (c i_law_padded) (aCons (fVar 1) (aCons (fVar 4) (aCons (fVar 5) (aCons (fVar 2) aNil)))))) fNop)
    (fSeq (fSet 6 (fMake "Chain" 2 (c i_Chain___init__) (aCons (fVar 4) aNil)))
    (fSeq (fSet 7 (fVal (aComp (aOver lstV (fVar 4)) (gN 18) (fB (f2 eqU (f2 ixU (fVar 18) (fC (.int 0))) (fC (.str "given")))) (f2 ixU (fVar 18) (fC (.int 1))) [18])))
    (fSeq (fSet 8 (f2 addU (fVal (fA sortSetA (aCons (fVar 7) aNil))) (fVal (aComp (aRng1 (aCons (fCall 2 (c i_law_draw) (aCons (fVar 1) (aCons (fC (.int 4)) aNil))) aNil)) (gN 22) fYes (fCall 3 (c i_law_clause) (aCons (fVar 1) (aCons (fVar 2) (aCons (fC (.int 4)) aNil)))) [22]))))
    (fSeq (fSet 9 (fCall 2 (c i_law_draw) (aCons (fVar 1) (aCons (fA lenC (aCons (fVar 8) aNil)) aNil))))
    (fSeq (fSet 8 (f2 addU (fSl (fVar 8) (oSome (fVar 9)) oNone) (fSl (fVar 8) oNone (oSome (fVar 9)))))
    (fSeq (fSet 10 (fCall 2 (c i_law_draw) (aCons (fVar 1) (aCons (fA lenC (aCons (fVar 8) aNil)) aNil))))
    (fSeq (fSet 11 (f2 ixU (fVar 8) (fVar 10)))
    (fSeq (fSet 12 (f2 addU (fA tupleC (aCons (fVal (aComp (aOver tupV (fSl (fVar 11) oNone (oSome (fC (.int 1))))) (gTup 2 (gCons (gN 23) (gCons (gN 24) gNil))) fYes (fTup (aCons (fVar 23) (aCons (fNotV (fVar 24)) aNil))) [23, 24])) aNil)) (fSl (fVar 11) (oSome (fC (.int 1))) oNone)))
    (fSeq (fSet 13 (fVal (aLst (aCons (fVar 8) (aCons (fVal (aRev (fVar 8))) (aCons (f2 addU (fSl (fVar 8) oNone (oSome (fVar 10))) (fSl (fVar 8) (oSome (f2 addU (fVar 10) (fC (.int 1)))) oNone)) (aCons (f2 addU (f2 addU (fSl (fVar 8) oNone (oSome (fVar 10))) (fVal (aLst (aCons (fVar 12) aNil)))) (fSl (fVar 8) (oSome (f2 addU (fVar 10) (fC (.int 1)))) oNone)) (aCons (f2 addU (fVar 8) (fVar 8)) (aCons (fVal (aLst aNil)) aNil)))))))))
    (fSeq (fSet 14 (f2 ixU (fVar 5) (f1 negU (fC (.int 1)))))
    (fSeq (fSet 15 (fLoc (aLst (aCons (fVar 14) (aCons (fOrV (fCall 1 (c i_law_joined) (aCons (f2 addU (fVar 14) (fCall 3 (c i_law_clause) (aCons (fVar 1) (aCons (fVar 2) (aCons (fC (.int 5)) aNil))))) aNil)) (fVar 14)) (aCons (fSl (fVar 14) (oSome (fC (.int 1))) oNone) (aCons (fSl (fVar 14) oNone (oSome (f1 negU (fC (.int 1))))) (aCons (fTup aNil) aNil))))))))
    (fSeq (fExpr (fM "list" appM (fVar 15) (aCons (fA tupleC (aCons (fVal (aComp (aOver tupV (fVar 14)) (gTup 2 (gCons (gN 23) (gCons (gN 24) gNil))) fYes (fTup (aCons (fVar 23) (aCons (fNotV (fVar 24)) aNil))) [23, 24])) aNil)) aNil)))
    (fSeq (iceV 15) (fFor (aOver lstV (fVar 13)) (gN 16) (fFor (aOver lstV (fVar 15)) (gN 17) (fSeq (fSet 19 (f2 eqU (f2 addU (fVal (aComp (aOver lstV (fVar 7)) (gN 25) (fB (f2 ninU (fVar 25) (fVar 16))) (fVar 25) [25])) (fVal (aComp (aOver tupV (fVar 14)) (gN 26) (fB (f2 ninAU (fVar 26) (fVar 17))) (fVar 26) [26]))) (fVal (aLst aNil))))
    (fSeq (fSet 20 (fVal (fA listC (aCons (fVar 16) aNil))))
    (fSeq (fSet 21 (fCall 3 (c i_comes_to) (aCons (fVar 6) (aCons (fVar 16) (aCons (fVar 17) aNil)))))
    (fIfS (fOr (fNot (fTru (fA isiC (aCons (fVar 21) (aCons (fC (.ty "bool")) aNil))))) (fOr (fB (f2 neU (fVar 21) (fVar 19))) (fB (f2 neU (fVar 16) (fVar 20))))) (fRet (fC (.bl false))) fNop))))))))))))))))))))))
    (fRet (fC (.bl true))))))
def b_Chain___init__ (c : Nat → List U → Sto → R U) : FS :=
  (fSeq (fPutF "Chain" "reached" (fVar 0) (fCall 1 (c i_clauses_of_steps) (aCons (fVar 1) aNil)))
    (fPutF "Chain" "rows" (fVar 0) (fVal (fA listC (aCons (fVar 1) aNil)))))
def b_Chain_last (c : Nat → List U → Sto → R U) : FS :=
  (fRet (f2 ixU (fGet "Chain" "reached" (fVar 0)) (f1 negU (fC (.int 1)))))
def b_Chain_givens (c : Nat → List U → Sto → R U) : FS :=
  (fRet (fVal (fA sortSetA (aCons (fVal (aComp (aOver lstV (fGet "Chain" "rows" (fVar 0))) (gN 1) (fB (f2 eqU (f2 ixU (fVar 1) (fC (.int 0))) (fC (.str "given")))) (f2 ixU (fVar 1) (fC (.int 1))) [1])) aNil))))
def bodies (c : Nat → List U → Sto → R U) : Nat → FS
  | 0 => b_is_word c
  | 1 => b_is_name c
  | 2 => b_is_literal c
  | 3 => b_is_clause c
  | 4 => b_clause_of c
  | 5 => b_is_part c
  | 6 => b_is_number c
  | 7 => b_met_clause c
  | 8 => b_clause_of_step c
  | 9 => b_clauses_of_steps c
  | 10 => b_comes_to c
  | 11 => b_law_tape c
  | 12 => b_law_draw c
  | 13 => b_law_words c
  | 14 => b_law_clause c
  | 15 => b_law_joined c
  | 16 => b_law_fresh c
  | 17 => b_law_grown c
  | 18 => b_law_chain c
  | 19 => b_law_padded c
  | 20 => b_law c
  | 21 => b_Chain___init__ c
  | 22 => b_Chain_last c
  | 23 => b_Chain_givens c
  | _ => fNever
def slots : Nat → Nat
  | 0 => 2
  | 1 => 1
  | 2 => 1
  | 3 => 3
  | 4 => 4
  | 5 => 3
  | 6 => 2
  | 7 => 5
  | 8 => 2
  | 9 => 5
  | 10 => 4
  | 11 => 1
  | 12 => 9
  | 13 => 11
  | 14 => 7
  | 15 => 5
  | 16 => 4
  | 17 => 14
  | 18 => 6
  | 19 => 11
  | 20 => 27
  | 21 => 2
  | 22 => 1
  | 23 => 2
  | _ => 0
/-- the defs, as deep as k -/
def call : Nat → Nat → List U → Sto → R U
  | 0, _, _, _ => .bad
  | k + 1, i, us, S => runB (bodies (call k) i) (enStart (slots i) us) S
end Law

set_option Elab.async false
set_option linter.all false
set_option maxRecDepth 100000
namespace Law
open PySem PySem.Spec L2 DL
/-! ### what the top has left -/
structure Txt (w : World) (K : PySem.W.Frag) (mg : Str → Option Value) where
  a_is_word : Addr
  fd_is_word : FuncData
  F_is_word : Fun K "is_word" "is_word" s_is_word a_is_word fd_is_word
  m_is_word : mg "is_word" = some (.ref a_is_word)
  b_is_word : Binds K fd_is_word ["thing"] []
  a_is_name : Addr
  fd_is_name : FuncData
  F_is_name : Fun K "is_name" "is_name" s_is_name a_is_name fd_is_name
  m_is_name : mg "is_name" = some (.ref a_is_name)
  b_is_name : Binds K fd_is_name ["thing"] []
  a_is_literal : Addr
  fd_is_literal : FuncData
  F_is_literal : Fun K "is_literal" "is_literal" s_is_literal a_is_literal fd_is_literal
  m_is_literal : mg "is_literal" = some (.ref a_is_literal)
  b_is_literal : Binds K fd_is_literal ["thing"] []
  a_is_clause : Addr
  fd_is_clause : FuncData
  F_is_clause : Fun K "is_clause" "is_clause" s_is_clause a_is_clause fd_is_clause
  m_is_clause : mg "is_clause" = some (.ref a_is_clause)
  b_is_clause : Binds K fd_is_clause ["thing"] []
  a_clause_of : Addr
  fd_clause_of : FuncData
  F_clause_of : Fun K "clause_of" "clause_of" s_clause_of a_clause_of fd_clause_of
  m_clause_of : mg "clause_of" = some (.ref a_clause_of)
  b_clause_of : Binds K fd_clause_of ["literals"] []
  a_is_part : Addr
  fd_is_part : FuncData
  F_is_part : Fun K "is_part" "is_part" s_is_part a_is_part fd_is_part
  m_is_part : mg "is_part" = some (.ref a_is_part)
  b_is_part : Binds K fd_is_part ["clause", "other"] []
  a_is_number : Addr
  fd_is_number : FuncData
  F_is_number : Fun K "is_number" "is_number" s_is_number a_is_number fd_is_number
  m_is_number : mg "is_number" = some (.ref a_is_number)
  b_is_number : Binds K fd_is_number ["thing", "most"] []
  a_met_clause : Addr
  fd_met_clause : FuncData
  F_met_clause : Fun K "met_clause" "met_clause" s_met_clause a_met_clause fd_met_clause
  m_met_clause : mg "met_clause" = some (.ref a_met_clause)
  b_met_clause : Binds K fd_met_clause ["one", "other", "name"] []
  a_clause_of_step : Addr
  fd_clause_of_step : FuncData
  F_clause_of_step : Fun K "clause_of_step" "clause_of_step" s_clause_of_step a_clause_of_step fd_clause_of_step
  m_clause_of_step : mg "clause_of_step" = some (.ref a_clause_of_step)
  b_clause_of_step : Binds K fd_clause_of_step ["thing", "clauses"] []
  a_clauses_of_steps : Addr
  fd_clauses_of_steps : FuncData
  F_clauses_of_steps : Fun K "clauses_of_steps" "clauses_of_steps" s_clauses_of_steps a_clauses_of_steps fd_clauses_of_steps
  m_clauses_of_steps : mg "clauses_of_steps" = some (.ref a_clauses_of_steps)
  b_clauses_of_steps : Binds K fd_clauses_of_steps ["steps"] []
  a_comes_to : Addr
  fd_comes_to : FuncData
  F_comes_to : Fun K "comes_to" "comes_to" s_comes_to a_comes_to fd_comes_to
  m_comes_to : mg "comes_to" = some (.ref a_comes_to)
  b_comes_to : Binds K fd_comes_to ["chain", "clauses", "clause"] []
  a__law_tape : Addr
  fd__law_tape : FuncData
  F__law_tape : Fun K "_law_tape" "_law_tape" s_law_tape a__law_tape fd__law_tape
  m__law_tape : mg "_law_tape" = some (.ref a__law_tape)
  b__law_tape : Binds K fd__law_tape ["_law_script"] []
  a__law_draw : Addr
  fd__law_draw : FuncData
  F__law_draw : Fun K "_law_draw" "_law_draw" s_law_draw a__law_draw fd__law_draw
  m__law_draw : mg "_law_draw" = some (.ref a__law_draw)
  b__law_draw : Binds K fd__law_draw ["_law_tape_here", "_law_many"] []
  a__law_words : Addr
  fd__law_words : FuncData
  F__law_words : Fun K "_law_words" "_law_words" s_law_words a__law_words fd__law_words
  m__law_words : mg "_law_words" = some (.ref a__law_words)
  b__law_words : Binds K fd__law_words ["_law_tape_here", "_law_many"] []
  a__law_clause : Addr
  fd__law_clause : FuncData
  F__law_clause : Fun K "_law_clause" "_law_clause" s_law_clause a__law_clause fd__law_clause
  m__law_clause : mg "_law_clause" = some (.ref a__law_clause)
  b__law_clause : Binds K fd__law_clause ["_law_tape_here", "_law_names", "_law_few"] []
  a__law_joined : Addr
  fd__law_joined : FuncData
  F__law_joined : Fun K "_law_joined" "_law_joined" s_law_joined a__law_joined fd__law_joined
  m__law_joined : mg "_law_joined" = some (.ref a__law_joined)
  b__law_joined : Binds K fd__law_joined ["_law_literals"] []
  a__law_fresh : Addr
  fd__law_fresh : FuncData
  F__law_fresh : Fun K "_law_fresh" "_law_fresh" s_law_fresh a__law_fresh fd__law_fresh
  m__law_fresh : mg "_law_fresh" = some (.ref a__law_fresh)
  b__law_fresh : Binds K fd__law_fresh ["_law_tape_here", "_law_many"] []
  a__law_grown : Addr
  fd__law_grown : FuncData
  F__law_grown : Fun K "_law_grown" "_law_grown" s_law_grown a__law_grown fd__law_grown
  m__law_grown : mg "_law_grown" = some (.ref a__law_grown)
  b__law_grown : Binds K fd__law_grown ["_law_tape_here", "_law_box", "_law_clause_here", "_law_deep"] []
  a__law_chain : Addr
  fd__law_chain : FuncData
  F__law_chain : Fun K "_law_chain" "_law_chain" s_law_chain a__law_chain fd__law_chain
  m__law_chain : mg "_law_chain" = some (.ref a__law_chain)
  b__law_chain : Binds K fd__law_chain ["_law_tape_here", "_law_names", "_law_clause_here", "_law_left", "_law_deep"] []
  a__law_padded : Addr
  fd__law_padded : FuncData
  F__law_padded : Fun K "_law_padded" "_law_padded" s_law_padded a__law_padded fd__law_padded
  m__law_padded : mg "_law_padded" = some (.ref a__law_padded)
  b__law_padded : Binds K fd__law_padded ["_law_tape_here", "_law_steps", "_law_clauses", "_law_names"] []
  a_law : Addr
  fd_law : FuncData
  F_law : Fun K "law" "law" s_law a_law fd_law
  m_law : mg "law" = some (.ref a_law)
  b_law : Binds K fd_law ["_law_script"] []
  a_Chain___init__ : Addr
  fd_Chain___init__ : FuncData
  F_Chain___init__ : Fun K "__init__" "Chain.__init__" s_Chain___init__ a_Chain___init__ fd_Chain___init__
  b_Chain___init__ : Binds K fd_Chain___init__ ["self", "steps"] []
  a_Chain_last : Addr
  fd_Chain_last : FuncData
  F_Chain_last : Fun K "last" "Chain.last" s_Chain_last a_Chain_last fd_Chain_last
  b_Chain_last : Binds K fd_Chain_last ["self"] []
  a_Chain_givens : Addr
  fd_Chain_givens : FuncData
  F_Chain_givens : Fun K "givens" "Chain.givens" s_Chain_givens a_Chain_givens fd_Chain_givens
  b_Chain_givens : Binds K fd_Chain_givens ["self"] []
  C_Chain : Addr
  mc_Chain : mg "Chain" = some (.ref C_Chain)
  cl_Chain : Cls K C_Chain
  mk_Chain : Mk K C_Chain a_Chain___init__
  me_Chain_last : Meth K C_Chain "last" a_Chain_last
  me_Chain_givens : Meth K C_Chain "givens" a_Chain_givens
  na_Chain_reached : NoAttr K C_Chain "reached"
  na_Chain_rows : NoAttr K C_Chain "rows"
  k_FIGURES : Value
  y_FIGURES : V
  m_FIGURES : mg "FIGURES" = some k_FIGURES
  r_FIGURES : RelV y_FIGURES k_FIGURES
  v_FIGURES : ∀ {P : Program} {z : World} {e : Wd}, VR ⟨K, mg, P, z⟩ e c_FIGURES y_FIGURES
  k_LETTERS : Value
  y_LETTERS : V
  m_LETTERS : mg "LETTERS" = some k_LETTERS
  r_LETTERS : RelV y_LETTERS k_LETTERS
  v_LETTERS : ∀ {P : Program} {z : World} {e : Wd}, VR ⟨K, mg, P, z⟩ e c_LETTERS y_LETTERS
  k_LONGEST_NAME : Value
  y_LONGEST_NAME : V
  m_LONGEST_NAME : mg "LONGEST_NAME" = some k_LONGEST_NAME
  r_LONGEST_NAME : RelV y_LONGEST_NAME k_LONGEST_NAME
  v_LONGEST_NAME : ∀ {P : Program} {z : World} {e : Wd}, VR ⟨K, mg, P, z⟩ e c_LONGEST_NAME y_LONGEST_NAME
  k_LONGEST_WORD : Value
  y_LONGEST_WORD : V
  m_LONGEST_WORD : mg "LONGEST_WORD" = some k_LONGEST_WORD
  r_LONGEST_WORD : RelV y_LONGEST_WORD k_LONGEST_WORD
  v_LONGEST_WORD : ∀ {P : Program} {z : World} {e : Wd}, VR ⟨K, mg, P, z⟩ e c_LONGEST_WORD y_LONGEST_WORD
  k_WORDS_OF_TEXTS : Value
  y_WORDS_OF_TEXTS : V
  m_WORDS_OF_TEXTS : mg "WORDS_OF_TEXTS" = some k_WORDS_OF_TEXTS
  r_WORDS_OF_TEXTS : RelV y_WORDS_OF_TEXTS k_WORDS_OF_TEXTS
  v_WORDS_OF_TEXTS : ∀ {P : Program} {z : World} {e : Wd}, VR ⟨K, mg, P, z⟩ e c_WORDS_OF_TEXTS y_WORDS_OF_TEXTS
  C_NoStep : Addr
  I_NoStep : Addr
  fi_NoStep : FuncData
  x_NoStep : XC K mg "NoStep" "step" "step" C_NoStep I_NoStep fi_NoStep sx_NoStep "IndexError.__new__" [.type "IndexError", .type "LookupError", .type "Exception", .type "BaseException", .type "object"]
  vb_IndexError : PySem.W.findCls K (.type "IndexError") (.type "type") "__init__" = some (.val (.builtin "IndexError.__init__"))
  z_IndexError : mg "IndexError" = none
  z_all : mg "all" = none
  z_bool : mg "bool" = none
  z_enumerate : mg "enumerate" = none
  z_int : mg "int" = none
  z_isinstance : mg "isinstance" = none
  z_len : mg "len" = none
  z_list : mg "list" = none
  z_max : mg "max" = none
  z_range : mg "range" = none
  z_set : mg "set" = none
  z_sorted : mg "sorted" = none
  z_str : mg "str" = none
  z_tuple : mg "tuple" = none
  z_zip : mg "zip" = none
section
variable {P : Program} {w : World} {K : PySem.W.Frag} {mg : Str → Option Value} {base : Heap}
theorem xi_NoStep (T : Txt w K mg) : FnOk P w K mg base (L2.CX P w) 1 T.I_NoStep T.fi_NoStep ["self", "step"] (spI T.C_NoStep "step") := by
  refine T.x_NoStep.fi.okX scx_NoStep (fun vs H Q E h => ?_) fun cdv A outer s H vs Q E hr h => ?_
  · obtain ⟨a, y, rfl, _⟩ := h; rfl
  · refine ⟨_, pss_cons (ps_expr (pe_binit bx_IndexError T.x_NoStep.ox rfl T.z_IndexError T.vb_IndexError (pa_cons (pv 0) (pa_cons pe_str pa_nil)))) (pss_one (ps_oset bx_IndexError T.x_NoStep.ox T.x_NoStep.nf (pv 0) (pv 1))), ?_⟩
    obtain ⟨a, y, rfl, ha, q⟩ := h
    exact ⟨.ref a, rfl, a, _, rfl, (by show 1 ≤ 1000; decide), ha, y, rfl, .ref a, rfl, a, rfl, ha, fun dx n ne => q dx n ne⟩
theorem xk_NoStep (T : Txt w K mg) : ExcOk P w K mg base 1 "NoStep" "step" := ⟨T.C_NoStep, T.I_NoStep, "step", T.fi_NoStep, "IndexError", "IndexError", "IndexError.__new__", "IndexError.__init__", _, bx_IndexError, T.x_NoStep.ox, T.x_NoStep.ic, T.x_NoStep.ti, xi_NoStep T, T.x_NoStep.bi, T.x_NoStep.mc⟩
structure Oks (P : Program) (base : Heap) (T : Txt w K mg) (k : Nat) : Prop where
  o_is_word : FnOk P w K mg base (L2.CX P w) (2 * k + 2) T.a_is_word T.fd_is_word ["thing"] (spOf ⟨K, mg, P, w⟩ 1 (call k i_is_word))
  o_is_name : FnOk P w K mg base (L2.CX P w) (2 * k + 2) T.a_is_name T.fd_is_name ["thing"] (spOf ⟨K, mg, P, w⟩ 1 (call k i_is_name))
  o_is_literal : FnOk P w K mg base (L2.CX P w) (2 * k + 2) T.a_is_literal T.fd_is_literal ["thing"] (spOf ⟨K, mg, P, w⟩ 1 (call k i_is_literal))
  o_is_clause : FnOk P w K mg base (L2.CX P w) (2 * k + 2) T.a_is_clause T.fd_is_clause ["thing"] (spOf ⟨K, mg, P, w⟩ 1 (call k i_is_clause))
  o_clause_of : FnOk P w K mg base (L2.CX P w) (2 * k + 2) T.a_clause_of T.fd_clause_of ["literals"] (spOf ⟨K, mg, P, w⟩ 1 (call k i_clause_of))
  o_is_part : FnOk P w K mg base (L2.CX P w) (2 * k + 2) T.a_is_part T.fd_is_part ["clause", "other"] (spOf ⟨K, mg, P, w⟩ 2 (call k i_is_part))
  o_is_number : FnOk P w K mg base (L2.CX P w) (2 * k + 2) T.a_is_number T.fd_is_number ["thing", "most"] (spOf ⟨K, mg, P, w⟩ 2 (call k i_is_number))
  o_met_clause : FnOk P w K mg base (L2.CX P w) (2 * k + 2) T.a_met_clause T.fd_met_clause ["one", "other", "name"] (spOf ⟨K, mg, P, w⟩ 3 (call k i_met_clause))
  o_clause_of_step : FnOk P w K mg base (L2.CX P w) (2 * k + 2) T.a_clause_of_step T.fd_clause_of_step ["thing", "clauses"] (spOf ⟨K, mg, P, w⟩ 2 (call k i_clause_of_step))
  o_clauses_of_steps : FnOk P w K mg base (L2.CX P w) (2 * k + 2) T.a_clauses_of_steps T.fd_clauses_of_steps ["steps"] (spOf ⟨K, mg, P, w⟩ 1 (call k i_clauses_of_steps))
  o_comes_to : FnOk P w K mg base (L2.CX P w) (2 * k + 2) T.a_comes_to T.fd_comes_to ["chain", "clauses", "clause"] (spOf ⟨K, mg, P, w⟩ 3 (call k i_comes_to))
  o__law_tape : FnOk P w K mg base (L2.CX P w) (2 * k + 2) T.a__law_tape T.fd__law_tape ["_law_script"] (spOf ⟨K, mg, P, w⟩ 1 (call k i_law_tape))
  o__law_draw : FnOk P w K mg base (L2.CX P w) (2 * k + 2) T.a__law_draw T.fd__law_draw ["_law_tape_here", "_law_many"] (spOf ⟨K, mg, P, w⟩ 2 (call k i_law_draw))
  o__law_words : FnOk P w K mg base (L2.CX P w) (2 * k + 2) T.a__law_words T.fd__law_words ["_law_tape_here", "_law_many"] (spOf ⟨K, mg, P, w⟩ 2 (call k i_law_words))
  o__law_clause : FnOk P w K mg base (L2.CX P w) (2 * k + 2) T.a__law_clause T.fd__law_clause ["_law_tape_here", "_law_names", "_law_few"] (spOf ⟨K, mg, P, w⟩ 3 (call k i_law_clause))
  o__law_joined : FnOk P w K mg base (L2.CX P w) (2 * k + 2) T.a__law_joined T.fd__law_joined ["_law_literals"] (spOf ⟨K, mg, P, w⟩ 1 (call k i_law_joined))
  o__law_fresh : FnOk P w K mg base (L2.CX P w) (2 * k + 2) T.a__law_fresh T.fd__law_fresh ["_law_tape_here", "_law_many"] (spOf ⟨K, mg, P, w⟩ 2 (call k i_law_fresh))
  o__law_grown : FnOk P w K mg base (L2.CX P w) (2 * k + 2) T.a__law_grown T.fd__law_grown ["_law_tape_here", "_law_box", "_law_clause_here", "_law_deep"] (spOf ⟨K, mg, P, w⟩ 4 (call k i_law_grown))
  o__law_chain : FnOk P w K mg base (L2.CX P w) (2 * k + 2) T.a__law_chain T.fd__law_chain ["_law_tape_here", "_law_names", "_law_clause_here", "_law_left", "_law_deep"] (spOf ⟨K, mg, P, w⟩ 5 (call k i_law_chain))
  o__law_padded : FnOk P w K mg base (L2.CX P w) (2 * k + 2) T.a__law_padded T.fd__law_padded ["_law_tape_here", "_law_steps", "_law_clauses", "_law_names"] (spOf ⟨K, mg, P, w⟩ 4 (call k i_law_padded))
  o_law : FnOk P w K mg base (L2.CX P w) (2 * k + 2) T.a_law T.fd_law ["_law_script"] (spOf ⟨K, mg, P, w⟩ 1 (call k i_law))
  o_Chain___init__ : FnOk P w K mg base (L2.CX P w) (2 * k + 2) T.a_Chain___init__ T.fd_Chain___init__ ["self", "steps"] (spOf ⟨K, mg, P, w⟩ 2 (call k i_Chain___init__))
  o_Chain_last : FnOk P w K mg base (L2.CX P w) (2 * k + 2) T.a_Chain_last T.fd_Chain_last ["self"] (spOf ⟨K, mg, P, w⟩ 1 (call k i_Chain_last))
  o_Chain_givens : FnOk P w K mg base (L2.CX P w) (2 * k + 2) T.a_Chain_givens T.fd_Chain_givens ["self"] (spOf ⟨K, mg, P, w⟩ 1 (call k i_Chain_givens))
set_option maxHeartbeats 4000000 in
theorem sim_is_word {k : Nat} (T : Txt w K mg) (O : Oks P base T k) (cdv : Value) (A : Around) (outer : List Env) (s : Shared) (H : Hp) (E : XK) (hr : Room (2 * k + 3) (A.deeper (PyProof.Rows.envOfC "is_word" (defScope s_is_word) s.heap.objs.size T.a_is_word cdv))) :
    SimB (cxOf (L2.CX P w) P w K mg base n_is_word "is_word" (defScope s_is_word) T.a_is_word cdv A outer s H E) (fun cls d _ H2 => E cls d H2) (defBody s_is_word) (b_is_word (call k)) := by
  have nd := sc_is_word.nd
  have hk : Room (2 * k + 2) (A.deeper (PyProof.Rows.envOfC "is_word" (defScope s_is_word) s.heap.objs.size T.a_is_word cdv)) := hr.mono (by omega)
  have hu66 := hr.un
  have hu64 : (A.deeper (PyProof.Rows.envOfC "is_word" (defScope s_is_word) s.heap.objs.size T.a_is_word cdv)).units + 64 < cLine := by omega
  have hu1 : (A.deeper (PyProof.Rows.envOfC "is_word" (defScope s_is_word) s.heap.objs.size T.a_is_word cdv)).units + 1 < cLine := by omega
  have hu67 : (A.deeper (PyProof.Rows.envOfC "is_word" (defScope s_is_word) s.heap.objs.size T.a_is_word cdv)).units + 67 < cLine := by omega
  replace hu66 : (A.deeper (PyProof.Rows.envOfC "is_word" (defScope s_is_word) s.heap.objs.size T.a_is_word cdv)).units + 66 < cLine := by omega
  exact (sb_cons (ss_if (SimW.t (sw_or (st_not (st_val (se_callB cs_isi rfl T.z_isinstance (by decide +kernel) (sa_cons (se_var 0) (sa_cons (se_ty "str" rfl T.z_str (by decide +kernel)) sa_nil))))) (sw_or1 (st_not (st_chain os_le noX_le os_le noX_le se_int (se_callB cs_len rfl T.z_len (by decide +kernel) (sa_cons (se_var 0) sa_nil)) (se_glob rfl T.m_LONGEST_WORD T.r_LONGEST_WORD (fun _ => T.v_LONGEST_WORD))))))) (sb_one (ss_ret se_bl)) sb_nil)
    (sb_one (ss_ret (se_and (se_callB (cs_all rfl) rfl T.z_all (by decide +kernel) (sa_cons (SimL.val (sl_comp rfl nd (si_str (se_var 0)) (blkOk_by (own := [("sign", 1)]) (N := n_is_word) (sc := defScope s_is_word) (by decide +kernel)) (fun _ _ _ _ _ => (sg_name 1 nd rfl (by first | exact Or.inl rfl | exact Or.inr rfl))) (fun _ _ _ _ _ => ts_nil) (fun _ _ _ _ _ => (se_cmp (os_in hu66) noX_in (se_var 1) (se_glob rfl T.m_LETTERS T.r_LETTERS (fun _ => T.v_LETTERS)) (by rfl))))) sa_nil)) (se_one (se_cmp (os_nin hu66) noX_nin (se_var 0) (se_glob rfl T.m_WORDS_OF_TEXTS T.r_WORDS_OF_TEXTS (fun _ => T.v_WORDS_OF_TEXTS)) (by rfl)))))))
set_option maxHeartbeats 4000000 in
theorem sim_is_name {k : Nat} (T : Txt w K mg) (O : Oks P base T k) (cdv : Value) (A : Around) (outer : List Env) (s : Shared) (H : Hp) (E : XK) (hr : Room (2 * k + 3) (A.deeper (PyProof.Rows.envOfC "is_name" (defScope s_is_name) s.heap.objs.size T.a_is_name cdv))) :
    SimB (cxOf (L2.CX P w) P w K mg base n_is_name "is_name" (defScope s_is_name) T.a_is_name cdv A outer s H E) (fun cls d _ H2 => E cls d H2) (defBody s_is_name) (b_is_name (call k)) := by
  have nd := sc_is_name.nd
  have hk : Room (2 * k + 2) (A.deeper (PyProof.Rows.envOfC "is_name" (defScope s_is_name) s.heap.objs.size T.a_is_name cdv)) := hr.mono (by omega)
  have hu66 := hr.un
  have hu64 : (A.deeper (PyProof.Rows.envOfC "is_name" (defScope s_is_name) s.heap.objs.size T.a_is_name cdv)).units + 64 < cLine := by omega
  have hu1 : (A.deeper (PyProof.Rows.envOfC "is_name" (defScope s_is_name) s.heap.objs.size T.a_is_name cdv)).units + 1 < cLine := by omega
  have hu67 : (A.deeper (PyProof.Rows.envOfC "is_name" (defScope s_is_name) s.heap.objs.size T.a_is_name cdv)).units + 67 < cLine := by omega
  replace hu66 : (A.deeper (PyProof.Rows.envOfC "is_name" (defScope s_is_name) s.heap.objs.size T.a_is_name cdv)).units + 66 < cLine := by omega
  exact (sb_cons (ss_if (SimW.t (sw_or (st_not (st_val (se_callB cs_isi rfl T.z_isinstance (by decide +kernel) (sa_cons (se_var 0) (sa_cons (se_ty "str" rfl T.z_str (by decide +kernel)) sa_nil))))) (sw_or1 (st_cmp os_gt noX_gt (se_callB cs_len rfl T.z_len (by decide +kernel) (sa_cons (se_var 0) sa_nil)) (se_glob rfl T.m_LONGEST_NAME T.r_LONGEST_NAME (fun _ => T.v_LONGEST_NAME)) (nomark _))))) (sb_one (ss_ret se_bl)) sb_nil)
    (sb_one (ss_ret (se_call (O.o_is_word) hk (pas_of (takes_of rfl rfl rfl rfl)) rfl T.m_is_word T.F_is_word.kp T.b_is_word (sa_cons (se_bm PySem.F.plainAttrs_str PySem.F.slot_str_rstrip PySem.F.type_str_rstrip ms_rstrip (se_var 0) (sa_cons (se_glob rfl T.m_FIGURES T.r_FIGURES (fun _ => T.v_FIGURES)) sa_nil)) sa_nil)))))
set_option maxHeartbeats 4000000 in
theorem sim_is_literal {k : Nat} (T : Txt w K mg) (O : Oks P base T k) (cdv : Value) (A : Around) (outer : List Env) (s : Shared) (H : Hp) (E : XK) (hr : Room (2 * k + 3) (A.deeper (PyProof.Rows.envOfC "is_literal" (defScope s_is_literal) s.heap.objs.size T.a_is_literal cdv))) :
    SimB (cxOf (L2.CX P w) P w K mg base n_is_literal "is_literal" (defScope s_is_literal) T.a_is_literal cdv A outer s H E) (fun cls d _ H2 => E cls d H2) (defBody s_is_literal) (b_is_literal (call k)) := by
  have nd := sc_is_literal.nd
  have hk : Room (2 * k + 2) (A.deeper (PyProof.Rows.envOfC "is_literal" (defScope s_is_literal) s.heap.objs.size T.a_is_literal cdv)) := hr.mono (by omega)
  have hu66 := hr.un
  have hu64 : (A.deeper (PyProof.Rows.envOfC "is_literal" (defScope s_is_literal) s.heap.objs.size T.a_is_literal cdv)).units + 64 < cLine := by omega
  have hu1 : (A.deeper (PyProof.Rows.envOfC "is_literal" (defScope s_is_literal) s.heap.objs.size T.a_is_literal cdv)).units + 1 < cLine := by omega
  have hu67 : (A.deeper (PyProof.Rows.envOfC "is_literal" (defScope s_is_literal) s.heap.objs.size T.a_is_literal cdv)).units + 67 < cLine := by omega
  replace hu66 : (A.deeper (PyProof.Rows.envOfC "is_literal" (defScope s_is_literal) s.heap.objs.size T.a_is_literal cdv)).units + 66 < cLine := by omega
  exact (sb_one (ss_ret (se_and (se_callB cs_isi rfl T.z_isinstance (by decide +kernel) (sa_cons (se_var 0) (sa_cons (se_ty "tuple" rfl T.z_tuple (by decide +kernel)) sa_nil))) (se_and (se_cmp (os_eq hu64) noX_eq (se_callB cs_len rfl T.z_len (by decide +kernel) (sa_cons (se_var 0) sa_nil)) se_int (nomark _)) (se_and (se_call (O.o_is_name) hk (pas_of (takes_of rfl rfl rfl rfl)) rfl T.m_is_name T.F_is_name.kp T.b_is_name (sa_cons (se_ix hu1 (se_var 0) se_int) sa_nil)) (se_one (se_callB cs_isi rfl T.z_isinstance (by decide +kernel) (sa_cons (se_ix hu1 (se_var 0) se_int) (sa_cons (se_ty "bool" rfl T.z_bool (by decide +kernel)) sa_nil)))))))))
set_option maxHeartbeats 4000000 in
theorem sim_is_clause {k : Nat} (T : Txt w K mg) (O : Oks P base T k) (cdv : Value) (A : Around) (outer : List Env) (s : Shared) (H : Hp) (E : XK) (hr : Room (2 * k + 3) (A.deeper (PyProof.Rows.envOfC "is_clause" (defScope s_is_clause) s.heap.objs.size T.a_is_clause cdv))) :
    SimB (cxOf (L2.CX P w) P w K mg base n_is_clause "is_clause" (defScope s_is_clause) T.a_is_clause cdv A outer s H E) (fun cls d _ H2 => E cls d H2) (defBody s_is_clause) (b_is_clause (call k)) := by
  have nd := sc_is_clause.nd
  have hk : Room (2 * k + 2) (A.deeper (PyProof.Rows.envOfC "is_clause" (defScope s_is_clause) s.heap.objs.size T.a_is_clause cdv)) := hr.mono (by omega)
  have hu66 := hr.un
  have hu64 : (A.deeper (PyProof.Rows.envOfC "is_clause" (defScope s_is_clause) s.heap.objs.size T.a_is_clause cdv)).units + 64 < cLine := by omega
  have hu1 : (A.deeper (PyProof.Rows.envOfC "is_clause" (defScope s_is_clause) s.heap.objs.size T.a_is_clause cdv)).units + 1 < cLine := by omega
  have hu67 : (A.deeper (PyProof.Rows.envOfC "is_clause" (defScope s_is_clause) s.heap.objs.size T.a_is_clause cdv)).units + 67 < cLine := by omega
  replace hu66 : (A.deeper (PyProof.Rows.envOfC "is_clause" (defScope s_is_clause) s.heap.objs.size T.a_is_clause cdv)).units + 66 < cLine := by omega
  exact (sb_cons (ss_if (SimW.t (sw_or (st_not (st_val (se_callB cs_isi rfl T.z_isinstance (by decide +kernel) (sa_cons (se_var 0) (sa_cons (se_ty "tuple" rfl T.z_tuple (by decide +kernel)) sa_nil))))) (sw_or1 (st_not (st_val (se_callB (cs_all rfl) rfl T.z_all (by decide +kernel) (sa_cons (SimL.val (sl_comp rfl nd (si_tup (se_var 0)) (blkOk_by (own := [("one", 2)]) (N := n_is_clause) (sc := defScope s_is_clause) (by decide +kernel)) (fun _ _ _ _ _ => (sg_name 2 nd rfl (by first | exact Or.inl rfl | exact Or.inr rfl))) (fun _ _ _ _ _ => ts_nil) (fun _ _ _ _ _ => (se_call (O.o_is_literal) hk pas_none rfl T.m_is_literal T.F_is_literal.kp T.b_is_literal (sa_cons (se_var 2) sa_nil))))) sa_nil))))))) (sb_one (ss_ret se_bl)) sb_nil)
    (sb_cons (And.left (ss_setComp 1 rfl nd rfl rfl (sw_true rfl rfl rfl (by decide +kernel)) (si_tup (se_var 0)) (blkOk_by (own := [("one", 2)]) (N := n_is_clause) (sc := defScope s_is_clause) (by decide +kernel)) (fun _ _ _ _ _ => (sg_name 2 nd rfl (by first | exact Or.inl rfl | exact Or.inr rfl))) (fun _ _ _ _ _ => ts_nil) (fun _ _ _ _ _ => (se_ix hu1 (se_var 2) se_int))))
    (sb_one (ss_ret (se_cmp (os_eq hu64) noX_eq (se_var 1) (SimL.val (sl_sortSetA rfl hu64 rfl T.z_sorted rfl T.z_set (sa_cons (se_var 1) sa_nil))) (nomark _))))))
set_option maxHeartbeats 4000000 in
theorem sim_clause_of {k : Nat} (T : Txt w K mg) (O : Oks P base T k) (cdv : Value) (A : Around) (outer : List Env) (s : Shared) (H : Hp) (E : XK) (hr : Room (2 * k + 3) (A.deeper (PyProof.Rows.envOfC "clause_of" (defScope s_clause_of) s.heap.objs.size T.a_clause_of cdv))) :
    SimB (cxOf (L2.CX P w) P w K mg base n_clause_of "clause_of" (defScope s_clause_of) T.a_clause_of cdv A outer s H E) (fun cls d _ H2 => E cls d H2) (defBody s_clause_of) (b_clause_of (call k)) := by
  have nd := sc_clause_of.nd
  have hk : Room (2 * k + 2) (A.deeper (PyProof.Rows.envOfC "clause_of" (defScope s_clause_of) s.heap.objs.size T.a_clause_of cdv)) := hr.mono (by omega)
  have hu66 := hr.un
  have hu64 : (A.deeper (PyProof.Rows.envOfC "clause_of" (defScope s_clause_of) s.heap.objs.size T.a_clause_of cdv)).units + 64 < cLine := by omega
  have hu1 : (A.deeper (PyProof.Rows.envOfC "clause_of" (defScope s_clause_of) s.heap.objs.size T.a_clause_of cdv)).units + 1 < cLine := by omega
  have hu67 : (A.deeper (PyProof.Rows.envOfC "clause_of" (defScope s_clause_of) s.heap.objs.size T.a_clause_of cdv)).units + 67 < cLine := by omega
  replace hu66 : (A.deeper (PyProof.Rows.envOfC "clause_of" (defScope s_clause_of) s.heap.objs.size T.a_clause_of cdv)).units + 66 < cLine := by omega
  exact (sb_cons (ss_set 1 nd rfl (by first | exact Or.inl rfl | exact Or.inr rfl) (SimD.loc sd_new))
    (sb_cons (ss_for (passes_of rfl) rfl (si_list (se_var 0)) (sg_tup rfl (sg_cons (sg_name 2 nd rfl (by first | exact Or.inl rfl | exact Or.inr rfl)) (sg_cons (sg_name 3 nd rfl (by first | exact Or.inl rfl | exact Or.inr rfl)) sg_nil))) (sb_cons (ss_if (st_cmp (os_ne hu64) noX_ne (se_bm PySem.F.plainAttrs_dict PySem.F.slot_dict_get PySem.F.type_dict_get (ms_get hu1) (se_var 1) (sa_cons (se_var 2) (sa_cons (se_var 3) sa_nil))) (se_var 3) (nomark _)) (sb_one (ss_ret se_non)) sb_nil)
    (sb_one (ss_store hu1 (se_var 3) (se_var 1) (se_var 2)))))
    (sb_one (ss_ret (se_callTy cs_tuple rfl T.z_tuple (by decide +kernel) (sa_cons (SimL.val (sl_sortIt rfl hu64 rfl T.z_sorted (se_var 1))) sa_nil))))))
set_option maxHeartbeats 4000000 in
theorem sim_is_part {k : Nat} (T : Txt w K mg) (O : Oks P base T k) (cdv : Value) (A : Around) (outer : List Env) (s : Shared) (H : Hp) (E : XK) (hr : Room (2 * k + 3) (A.deeper (PyProof.Rows.envOfC "is_part" (defScope s_is_part) s.heap.objs.size T.a_is_part cdv))) :
    SimB (cxOf (L2.CX P w) P w K mg base n_is_part "is_part" (defScope s_is_part) T.a_is_part cdv A outer s H E) (fun cls d _ H2 => E cls d H2) (defBody s_is_part) (b_is_part (call k)) := by
  have nd := sc_is_part.nd
  have hk : Room (2 * k + 2) (A.deeper (PyProof.Rows.envOfC "is_part" (defScope s_is_part) s.heap.objs.size T.a_is_part cdv)) := hr.mono (by omega)
  have hu66 := hr.un
  have hu64 : (A.deeper (PyProof.Rows.envOfC "is_part" (defScope s_is_part) s.heap.objs.size T.a_is_part cdv)).units + 64 < cLine := by omega
  have hu1 : (A.deeper (PyProof.Rows.envOfC "is_part" (defScope s_is_part) s.heap.objs.size T.a_is_part cdv)).units + 1 < cLine := by omega
  have hu67 : (A.deeper (PyProof.Rows.envOfC "is_part" (defScope s_is_part) s.heap.objs.size T.a_is_part cdv)).units + 67 < cLine := by omega
  replace hu66 : (A.deeper (PyProof.Rows.envOfC "is_part" (defScope s_is_part) s.heap.objs.size T.a_is_part cdv)).units + 66 < cLine := by omega
  exact (sb_one (ss_ret (se_callB (cs_all rfl) rfl T.z_all (by decide +kernel) (sa_cons (SimL.val (sl_comp rfl nd (si_tup (se_var 0)) (blkOk_by (own := [("one", 2)]) (N := n_is_part) (sc := defScope s_is_part) (by decide +kernel)) (fun _ _ _ _ _ => (sg_name 2 nd rfl (by first | exact Or.inl rfl | exact Or.inr rfl))) (fun _ _ _ _ _ => ts_nil) (fun _ _ _ _ _ => (se_cmp (os_inA hu66) noX_inA (se_var 2) (se_var 1) (by rfl))))) sa_nil))))
set_option maxHeartbeats 4000000 in
theorem sim_is_number {k : Nat} (T : Txt w K mg) (O : Oks P base T k) (cdv : Value) (A : Around) (outer : List Env) (s : Shared) (H : Hp) (E : XK) (hr : Room (2 * k + 3) (A.deeper (PyProof.Rows.envOfC "is_number" (defScope s_is_number) s.heap.objs.size T.a_is_number cdv))) :
    SimB (cxOf (L2.CX P w) P w K mg base n_is_number "is_number" (defScope s_is_number) T.a_is_number cdv A outer s H E) (fun cls d _ H2 => E cls d H2) (defBody s_is_number) (b_is_number (call k)) := by
  have nd := sc_is_number.nd
  have hk : Room (2 * k + 2) (A.deeper (PyProof.Rows.envOfC "is_number" (defScope s_is_number) s.heap.objs.size T.a_is_number cdv)) := hr.mono (by omega)
  have hu66 := hr.un
  have hu64 : (A.deeper (PyProof.Rows.envOfC "is_number" (defScope s_is_number) s.heap.objs.size T.a_is_number cdv)).units + 64 < cLine := by omega
  have hu1 : (A.deeper (PyProof.Rows.envOfC "is_number" (defScope s_is_number) s.heap.objs.size T.a_is_number cdv)).units + 1 < cLine := by omega
  have hu67 : (A.deeper (PyProof.Rows.envOfC "is_number" (defScope s_is_number) s.heap.objs.size T.a_is_number cdv)).units + 67 < cLine := by omega
  replace hu66 : (A.deeper (PyProof.Rows.envOfC "is_number" (defScope s_is_number) s.heap.objs.size T.a_is_number cdv)).units + 66 < cLine := by omega
  exact (sb_one (ss_ret (se_and (se_callB cs_isi rfl T.z_isinstance (by decide +kernel) (sa_cons (se_var 0) (sa_cons (se_ty "int" rfl T.z_int (by decide +kernel)) sa_nil))) (se_and (se_not (se_callB cs_isi rfl T.z_isinstance (by decide +kernel) (sa_cons (se_var 0) (sa_cons (se_ty "bool" rfl T.z_bool (by decide +kernel)) sa_nil)))) (se_one (se_chain os_le noX_le os_lt noX_lt se_int (se_var 0) (se_var 1)))))))
set_option maxHeartbeats 4000000 in
theorem sim_met_clause {k : Nat} (T : Txt w K mg) (O : Oks P base T k) (cdv : Value) (A : Around) (outer : List Env) (s : Shared) (H : Hp) (E : XK) (hr : Room (2 * k + 3) (A.deeper (PyProof.Rows.envOfC "met_clause" (defScope s_met_clause) s.heap.objs.size T.a_met_clause cdv))) :
    SimB (cxOf (L2.CX P w) P w K mg base n_met_clause "met_clause" (defScope s_met_clause) T.a_met_clause cdv A outer s H E) (fun cls d _ H2 => E cls d H2) (defBody s_met_clause) (b_met_clause (call k)) := by
  have nd := sc_met_clause.nd
  have hk : Room (2 * k + 2) (A.deeper (PyProof.Rows.envOfC "met_clause" (defScope s_met_clause) s.heap.objs.size T.a_met_clause cdv)) := hr.mono (by omega)
  have hu66 := hr.un
  have hu64 : (A.deeper (PyProof.Rows.envOfC "met_clause" (defScope s_met_clause) s.heap.objs.size T.a_met_clause cdv)).units + 64 < cLine := by omega
  have hu1 : (A.deeper (PyProof.Rows.envOfC "met_clause" (defScope s_met_clause) s.heap.objs.size T.a_met_clause cdv)).units + 1 < cLine := by omega
  have hu67 : (A.deeper (PyProof.Rows.envOfC "met_clause" (defScope s_met_clause) s.heap.objs.size T.a_met_clause cdv)).units + 67 < cLine := by omega
  replace hu66 : (A.deeper (PyProof.Rows.envOfC "met_clause" (defScope s_met_clause) s.heap.objs.size T.a_met_clause cdv)).units + 66 < cLine := by omega
  exact (sb_cons (ss_if (SimW.t (sw_or (st_cmp (os_ninA hu66) noX_ninA (se_tup (sa_cons (se_var 2) (sa_cons se_bl sa_nil))) (se_var 0) (by rfl)) (sw_or1 (st_cmp (os_ninA hu66) noX_ninA (se_tup (sa_cons (se_var 2) (sa_cons se_bl sa_nil))) (se_var 1) (by rfl))))) (sb_one (ss_ret se_non)) sb_nil)
    (sb_cons (And.left (ss_setComp 3 rfl nd rfl rfl (sw_true rfl rfl rfl (by decide +kernel)) (si_tup (se_var 0)) (blkOk_by (own := [("literal", 4)]) (N := n_met_clause) (sc := defScope s_met_clause) (by decide +kernel)) (fun _ _ _ _ _ => (sg_name 4 nd rfl (by first | exact Or.inl rfl | exact Or.inr rfl))) (fun _ _ _ _ _ => (ts_one (st_cmp (os_ne hu64) noX_ne (se_var 4) (se_tup (sa_cons (se_var 2) (sa_cons se_bl sa_nil))) (nomark _)))) (fun _ _ _ _ _ => (se_var 4))))
    (sb_one (ss_ret (se_call (O.o_clause_of) hk (pas_of (takes_of rfl rfl rfl rfl)) rfl T.m_clause_of T.F_clause_of.kp T.b_clause_of (sa_cons (se_op os_add noX_add (se_var 3) (SimL.val (sl_comp rfl nd (si_tup (se_var 1)) (blkOk_by (own := [("literal", 4)]) (N := n_met_clause) (sc := defScope s_met_clause) (by decide +kernel)) (fun _ _ _ _ _ => (sg_name 4 nd rfl (by first | exact Or.inl rfl | exact Or.inr rfl))) (fun _ _ _ _ _ => (ts_one (st_cmp (os_ne hu64) noX_ne (se_var 4) (se_tup (sa_cons (se_var 2) (sa_cons se_bl sa_nil))) (nomark _)))) (fun _ _ _ _ _ => (se_var 4))))) sa_nil))))))
set_option maxHeartbeats 4000000 in
theorem sim_clause_of_step {k : Nat} (T : Txt w K mg) (O : Oks P base T k) (cdv : Value) (A : Around) (outer : List Env) (s : Shared) (H : Hp) (E : XK) (hr : Room (2 * k + 3) (A.deeper (PyProof.Rows.envOfC "clause_of_step" (defScope s_clause_of_step) s.heap.objs.size T.a_clause_of_step cdv))) :
    SimB (cxOf (L2.CX P w) P w K mg base n_clause_of_step "clause_of_step" (defScope s_clause_of_step) T.a_clause_of_step cdv A outer s H E) (fun cls d _ H2 => E cls d H2) (defBody s_clause_of_step) (b_clause_of_step (call k)) := by
  have nd := sc_clause_of_step.nd
  have hk : Room (2 * k + 2) (A.deeper (PyProof.Rows.envOfC "clause_of_step" (defScope s_clause_of_step) s.heap.objs.size T.a_clause_of_step cdv)) := hr.mono (by omega)
  have hu66 := hr.un
  have hu64 : (A.deeper (PyProof.Rows.envOfC "clause_of_step" (defScope s_clause_of_step) s.heap.objs.size T.a_clause_of_step cdv)).units + 64 < cLine := by omega
  have hu1 : (A.deeper (PyProof.Rows.envOfC "clause_of_step" (defScope s_clause_of_step) s.heap.objs.size T.a_clause_of_step cdv)).units + 1 < cLine := by omega
  have hu67 : (A.deeper (PyProof.Rows.envOfC "clause_of_step" (defScope s_clause_of_step) s.heap.objs.size T.a_clause_of_step cdv)).units + 67 < cLine := by omega
  replace hu66 : (A.deeper (PyProof.Rows.envOfC "clause_of_step" (defScope s_clause_of_step) s.heap.objs.size T.a_clause_of_step cdv)).units + 66 < cLine := by omega
  exact (sb_cons (ss_if (SimW.t (sw_or (st_not (st_val (se_callB cs_isi rfl T.z_isinstance (by decide +kernel) (sa_cons (se_var 0) (sa_cons (se_ty "tuple" rfl T.z_tuple (by decide +kernel)) sa_nil))))) (sw_or1 (st_cmp os_lt noX_lt (se_callB cs_len rfl T.z_len (by decide +kernel) (sa_cons (se_var 0) sa_nil)) se_int (nomark _))))) (sb_one (ss_ret se_non)) sb_nil)
    (sb_cons (ss_if (SimW.t (sw_and (st_cmp (os_eq hu64) noX_eq (se_ix hu1 (se_var 0) se_int) se_str (nomark _)) (sw_and1 (st_cmp (os_eq hu64) noX_eq (se_callB cs_len rfl T.z_len (by decide +kernel) (sa_cons (se_var 0) sa_nil)) se_int (nomark _))))) (sb_one (ss_ret (se_if (st_val (se_call (O.o_is_clause) hk (pas_of (takes_of rfl rfl rfl rfl)) rfl T.m_is_clause T.F_is_clause.kp T.b_is_clause (sa_cons (se_ix hu1 (se_var 0) se_int) sa_nil))) (se_ix hu1 (se_var 0) se_int) se_non))) sb_nil)
    (sb_cons (ss_if (SimW.t (sw_or (st_cmp (os_ne hu64) noX_ne (se_ix hu1 (se_var 0) se_int) se_str (nomark _)) (sw_or (st_cmp (os_ne hu64) noX_ne (se_callB cs_len rfl T.z_len (by decide +kernel) (sa_cons (se_var 0) sa_nil)) se_int (nomark _)) (sw_or1 (st_not (st_val (se_call (O.o_is_name) hk (pas_of (takes_of rfl rfl rfl rfl)) rfl T.m_is_name T.F_is_name.kp T.b_is_name (sa_cons (se_ix hu1 (se_var 0) se_int) sa_nil)))))))) (sb_one (ss_ret se_non)) sb_nil)
    (sb_cons (ss_if (SimW.t (sw_or (st_not (st_val (se_call (O.o_is_number) hk (pas_of (takes_of rfl rfl rfl rfl)) rfl T.m_is_number T.F_is_number.kp T.b_is_number (sa_cons (se_ix hu1 (se_var 0) se_int) (sa_cons (se_callB cs_len rfl T.z_len (by decide +kernel) (sa_cons (se_var 1) sa_nil)) sa_nil))))) (sw_or1 (st_not (st_val (se_call (O.o_is_number) hk (pas_of (takes_of rfl rfl rfl rfl)) rfl T.m_is_number T.F_is_number.kp T.b_is_number (sa_cons (se_ix hu1 (se_var 0) se_int) (sa_cons (se_callB cs_len rfl T.z_len (by decide +kernel) (sa_cons (se_var 1) sa_nil)) sa_nil)))))))) (sb_one (ss_ret se_non)) sb_nil)
    (sb_one (ss_ret (se_call (O.o_met_clause) hk (pas_of (takes_of rfl rfl rfl rfl)) rfl T.m_met_clause T.F_met_clause.kp T.b_met_clause (sa_cons (se_ix hu1 (se_var 1) (se_ix hu1 (se_var 0) se_int)) (sa_cons (se_ix hu1 (se_var 1) (se_ix hu1 (se_var 0) se_int)) (sa_cons (se_ix hu1 (se_var 0) se_int) sa_nil))))))))))
set_option maxHeartbeats 4000000 in
theorem sim_clauses_of_steps {k : Nat} (T : Txt w K mg) (O : Oks P base T k) (cdv : Value) (A : Around) (outer : List Env) (s : Shared) (H : Hp) (E : XK) (hr : Room (2 * k + 3) (A.deeper (PyProof.Rows.envOfC "clauses_of_steps" (defScope s_clauses_of_steps) s.heap.objs.size T.a_clauses_of_steps cdv))) :
    SimB (cxOf (L2.CX P w) P w K mg base n_clauses_of_steps "clauses_of_steps" (defScope s_clauses_of_steps) T.a_clauses_of_steps cdv A outer s H E) (fun cls d _ H2 => E cls d H2) (defBody s_clauses_of_steps) (b_clauses_of_steps (call k)) := by
  have nd := sc_clauses_of_steps.nd
  have hk : Room (2 * k + 2) (A.deeper (PyProof.Rows.envOfC "clauses_of_steps" (defScope s_clauses_of_steps) s.heap.objs.size T.a_clauses_of_steps cdv)) := hr.mono (by omega)
  have hu66 := hr.un
  have hu64 : (A.deeper (PyProof.Rows.envOfC "clauses_of_steps" (defScope s_clauses_of_steps) s.heap.objs.size T.a_clauses_of_steps cdv)).units + 64 < cLine := by omega
  have hu1 : (A.deeper (PyProof.Rows.envOfC "clauses_of_steps" (defScope s_clauses_of_steps) s.heap.objs.size T.a_clauses_of_steps cdv)).units + 1 < cLine := by omega
  have hu67 : (A.deeper (PyProof.Rows.envOfC "clauses_of_steps" (defScope s_clauses_of_steps) s.heap.objs.size T.a_clauses_of_steps cdv)).units + 67 < cLine := by omega
  replace hu66 : (A.deeper (PyProof.Rows.envOfC "clauses_of_steps" (defScope s_clauses_of_steps) s.heap.objs.size T.a_clauses_of_steps cdv)).units + 66 < cLine := by omega
  exact (sb_cons (ss_if (SimW.t (sw_or (st_not (st_val (se_callB cs_isi rfl T.z_isinstance (by decide +kernel) (sa_cons (se_var 0) (sa_cons (se_tup (sa_cons (se_ty "list" rfl T.z_list (by decide +kernel)) (sa_cons (se_ty "tuple" rfl T.z_tuple (by decide +kernel)) sa_nil))) sa_nil))))) (sw_or1 (st_cmp (os_eq hu64) noX_eq (se_callB cs_len rfl T.z_len (by decide +kernel) (sa_cons (se_var 0) sa_nil)) se_int (nomark _))))) (sb_one (ss_raise (xk_NoStep T) (hr.mono (by omega)) rfl (takes_of rfl rfl rfl rfl) rfl (sa_cons se_int sa_nil))) sb_nil)
    (sb_cons (ss_set 1 nd rfl (by first | exact Or.inl rfl | exact Or.inr rfl) (SimL.loc (sl_lst sa_nil)))
    (sb_cons (ss_for (passes_of rfl) rfl (si_enum rfl T.z_enumerate (sa_cons (se_var 0) sa_nil)) (sg_tup rfl (sg_cons (sg_name 2 nd rfl (by first | exact Or.inl rfl | exact Or.inr rfl)) (sg_cons (sg_name 3 nd rfl (by first | exact Or.inl rfl | exact Or.inr rfl)) sg_nil))) (sb_cons (ss_set 4 nd rfl (by first | exact Or.inl rfl | exact Or.inr rfl) (se_call (O.o_clause_of_step) hk (pas_of (takes_of rfl rfl rfl rfl)) rfl T.m_clause_of_step T.F_clause_of_step.kp T.b_clause_of_step (sa_cons (se_var 3) (sa_cons (se_var 1) sa_nil))))
    (sb_cons (ss_if (st_cmp os_is noX_is (se_var 4) se_non (nomark _)) (sb_one (ss_raise (xk_NoStep T) (hr.mono (by omega)) rfl (takes_of rfl rfl rfl rfl) rfl (sa_cons (se_var 2) sa_nil))) sb_nil)
    (sb_one (ss_expr (se_bm PySem.F.plainAttrs_list PySem.F.slot_list_append PySem.F.type_list_append ms_append (se_var 1) (sa_cons (se_var 4) sa_nil)))))))
    (sb_one (ss_ret (se_ice (se_var 1)))))))
set_option maxHeartbeats 4000000 in
theorem sim_comes_to {k : Nat} (T : Txt w K mg) (O : Oks P base T k) (cdv : Value) (A : Around) (outer : List Env) (s : Shared) (H : Hp) (E : XK) (hr : Room (2 * k + 3) (A.deeper (PyProof.Rows.envOfC "comes_to" (defScope s_comes_to) s.heap.objs.size T.a_comes_to cdv))) :
    SimB (cxOf (L2.CX P w) P w K mg base n_comes_to "comes_to" (defScope s_comes_to) T.a_comes_to cdv A outer s H E) (fun cls d _ H2 => E cls d H2) (defBody s_comes_to) (b_comes_to (call k)) := by
  have nd := sc_comes_to.nd
  have hk : Room (2 * k + 2) (A.deeper (PyProof.Rows.envOfC "comes_to" (defScope s_comes_to) s.heap.objs.size T.a_comes_to cdv)) := hr.mono (by omega)
  have hu66 := hr.un
  have hu64 : (A.deeper (PyProof.Rows.envOfC "comes_to" (defScope s_comes_to) s.heap.objs.size T.a_comes_to cdv)).units + 64 < cLine := by omega
  have hu1 : (A.deeper (PyProof.Rows.envOfC "comes_to" (defScope s_comes_to) s.heap.objs.size T.a_comes_to cdv)).units + 1 < cLine := by omega
  have hu67 : (A.deeper (PyProof.Rows.envOfC "comes_to" (defScope s_comes_to) s.heap.objs.size T.a_comes_to cdv)).units + 67 < cLine := by omega
  replace hu66 : (A.deeper (PyProof.Rows.envOfC "comes_to" (defScope s_comes_to) s.heap.objs.size T.a_comes_to cdv)).units + 66 < cLine := by omega
  exact (sb_one (ss_ret (se_and (se_callB (cs_all rfl) rfl T.z_all (by decide +kernel) (sa_cons (SimL.val (sl_comp rfl nd (si_list (se_meth0 (O.o_Chain_givens) hk (pas_of (takes_of rfl rfl rfl rfl)) T.mc_Chain T.cl_Chain T.me_Chain_givens T.b_Chain_givens (se_var 0))) (blkOk_by (own := [("one", 3)]) (N := n_comes_to) (sc := defScope s_comes_to) (by decide +kernel)) (fun _ _ _ _ _ => (sg_name 3 nd rfl (by first | exact Or.inl rfl | exact Or.inr rfl))) (fun _ _ _ _ _ => ts_nil) (fun _ _ _ _ _ => (se_cmp (os_in hu66) noX_in (se_var 3) (se_var 1) (by rfl))))) sa_nil)) (se_one (se_call (O.o_is_part) hk (pas_of (takes_of rfl rfl rfl rfl)) rfl T.m_is_part T.F_is_part.kp T.b_is_part (sa_cons (se_meth0 (O.o_Chain_last) hk (pas_of (takes_of rfl rfl rfl rfl)) T.mc_Chain T.cl_Chain T.me_Chain_last T.b_Chain_last (se_var 0)) (sa_cons (se_var 2) sa_nil)))))))
set_option maxHeartbeats 4000000 in
theorem sim_law_tape {k : Nat} (T : Txt w K mg) (O : Oks P base T k) (cdv : Value) (A : Around) (outer : List Env) (s : Shared) (H : Hp) (E : XK) (hr : Room (2 * k + 3) (A.deeper (PyProof.Rows.envOfC "_law_tape" (defScope s_law_tape) s.heap.objs.size T.a__law_tape cdv))) :
    SimB (cxOf (L2.CX P w) P w K mg base n_law_tape "_law_tape" (defScope s_law_tape) T.a__law_tape cdv A outer s H E) (fun cls d _ H2 => E cls d H2) (defBody s_law_tape) (b_law_tape (call k)) := by
  have nd := sc_law_tape.nd
  have hk : Room (2 * k + 2) (A.deeper (PyProof.Rows.envOfC "_law_tape" (defScope s_law_tape) s.heap.objs.size T.a__law_tape cdv)) := hr.mono (by omega)
  have hu66 := hr.un
  have hu64 : (A.deeper (PyProof.Rows.envOfC "_law_tape" (defScope s_law_tape) s.heap.objs.size T.a__law_tape cdv)).units + 64 < cLine := by omega
  have hu1 : (A.deeper (PyProof.Rows.envOfC "_law_tape" (defScope s_law_tape) s.heap.objs.size T.a__law_tape cdv)).units + 1 < cLine := by omega
  have hu67 : (A.deeper (PyProof.Rows.envOfC "_law_tape" (defScope s_law_tape) s.heap.objs.size T.a__law_tape cdv)).units + 67 < cLine := by omega
  replace hu66 : (A.deeper (PyProof.Rows.envOfC "_law_tape" (defScope s_law_tape) s.heap.objs.size T.a__law_tape cdv)).units + 66 < cLine := by omega
  exact (sb_one (ss_ret (SimD.loc (sd_disp (sp_cons se_str (se_slice (se_var 0) so_none (so_some se_int)) (sp_cons se_str se_int (sp_cons se_str se_int sp_nil)))))))
set_option maxHeartbeats 4000000 in
theorem sim_law_draw {k : Nat} (T : Txt w K mg) (O : Oks P base T k) (cdv : Value) (A : Around) (outer : List Env) (s : Shared) (H : Hp) (E : XK) (hr : Room (2 * k + 3) (A.deeper (PyProof.Rows.envOfC "_law_draw" (defScope s_law_draw) s.heap.objs.size T.a__law_draw cdv))) :
    SimB (cxOf (L2.CX P w) P w K mg base n_law_draw "_law_draw" (defScope s_law_draw) T.a__law_draw cdv A outer s H E) (fun cls d _ H2 => E cls d H2) (defBody s_law_draw) (b_law_draw (call k)) := by
  have nd := sc_law_draw.nd
  have hk : Room (2 * k + 2) (A.deeper (PyProof.Rows.envOfC "_law_draw" (defScope s_law_draw) s.heap.objs.size T.a__law_draw cdv)) := hr.mono (by omega)
  have hu66 := hr.un
  have hu64 : (A.deeper (PyProof.Rows.envOfC "_law_draw" (defScope s_law_draw) s.heap.objs.size T.a__law_draw cdv)).units + 64 < cLine := by omega
  have hu1 : (A.deeper (PyProof.Rows.envOfC "_law_draw" (defScope s_law_draw) s.heap.objs.size T.a__law_draw cdv)).units + 1 < cLine := by omega
  have hu67 : (A.deeper (PyProof.Rows.envOfC "_law_draw" (defScope s_law_draw) s.heap.objs.size T.a__law_draw cdv)).units + 67 < cLine := by omega
  replace hu66 : (A.deeper (PyProof.Rows.envOfC "_law_draw" (defScope s_law_draw) s.heap.objs.size T.a__law_draw cdv)).units + 66 < cLine := by omega
  exact (sb_cons (ss_if (st_cmp os_gt noX_gt (se_ix hu1 (se_var 0) se_str) se_int (nomark _)) (sb_cons (ss_set 8 nd rfl (by first | exact Or.inl rfl | exact Or.inr rfl) (se_op os_mod noX_mod (se_ix hu1 (se_var 0) se_str) (se_var 1)))
    (sb_cons (ss_store hu1 (se_op os_fdiv noX_fdiv (se_ix hu1 (se_var 0) se_str) (se_var 1)) (se_var 0) se_str)
    (sb_one (ss_ret (se_var 8))))) sb_nil)
    (sb_cons (ss_set 2 nd rfl (by first | exact Or.inl rfl | exact Or.inr rfl) (se_ix hu1 (se_var 0) se_str))
    (sb_cons (ss_store hu1 (se_op os_add noX_add (se_var 2) se_int) (se_var 0) se_str)
    (sb_cons (ss_set 3 nd rfl (by first | exact Or.inl rfl | exact Or.inr rfl) (se_or (se_ix hu1 (se_var 0) se_str) (se_one (SimL.val (sl_lst (sa_cons se_int sa_nil))))))
    (sb_cons (ss_set 4 nd rfl (by first | exact Or.inl rfl | exact Or.inr rfl) (se_ix hu1 (se_var 3) (se_op os_mod noX_mod (se_var 2) (se_callB cs_len rfl T.z_len (by decide +kernel) (sa_cons (se_var 3) sa_nil)))))
    (sb_cons (ss_if (SimW.t (sw_and (st_cmp os_ge noX_ge (se_var 4) (se_op os_pow noX_pow se_int se_int) (nomark _)) (sw_and1 (st_cmp os_lt noX_lt (se_var 2) (se_callB cs_len rfl T.z_len (by decide +kernel) (sa_cons (se_var 3) sa_nil)) (nomark _))))) (sb_cons (ss_store hu1 (se_op os_fdiv noX_fdiv (se_op os_sub noX_sub (se_var 4) (se_op os_pow noX_pow se_int se_int)) (se_var 1)) (se_var 0) se_str)
    (sb_one (ss_ret (se_op os_mod noX_mod (se_op os_sub noX_sub (se_var 4) (se_op os_pow noX_pow se_int se_int)) (se_var 1))))) sb_nil)
    (sb_cons (ss_set 5 nd rfl (by first | exact Or.inl rfl | exact Or.inr rfl) (SimL.val (sl_lst (sa_cons se_int (sa_cons se_int (sa_cons se_int (sa_cons se_int (sa_cons se_int (sa_cons se_int (sa_cons se_int sa_nil))))))))))
    (sb_cons (ss_set 6 nd rfl (by first | exact Or.inl rfl | exact Or.inr rfl) (se_ix hu1 (se_var 5) (se_op os_mod noX_mod (se_var 2) se_int)))
    (sb_cons (ss_set 7 nd rfl (by first | exact Or.inl rfl | exact Or.inr rfl) (se_op os_mod noX_mod (se_op os_add noX_add (se_op os_add noX_add (se_op os_add noX_add (se_op os_mul noX_mul (se_op os_mod noX_mod (se_var 4) (se_var 6)) se_int) (se_op os_mul noX_mul (se_op os_mul noX_mul se_int (se_var 2)) (se_var 2))) (se_op os_mul noX_mul se_int (se_var 2))) se_int) (se_var 6)))
    (sb_cons (ss_set 7 nd rfl (by first | exact Or.inl rfl | exact Or.inr rfl) (se_op os_mod noX_mod (se_op os_mul noX_mul (se_var 7) (se_op os_add noX_add (se_var 7) se_int)) (se_ix hu1 (se_var 5) (se_op os_mod noX_mod (se_op os_add noX_add (se_var 2) se_int) se_int))))
    (sb_cons (ss_set 8 nd rfl (by first | exact Or.inl rfl | exact Or.inr rfl) (se_op os_fdiv noX_fdiv (se_op os_mod noX_mod (se_op os_mul noX_mul (se_var 7) (se_var 7)) (se_var 6)) se_int))
    (sb_cons (ss_if (st_cmp os_gt noX_gt (se_var 1) (se_op os_pow noX_pow se_int se_int) (nomark _)) (sb_one (ss_set 8 nd rfl (by first | exact Or.inl rfl | exact Or.inr rfl) (se_op os_add noX_add (se_op os_mod noX_mod (se_var 8) (se_op os_pow noX_pow se_int se_int)) (se_op os_mul noX_mul (se_op os_pow noX_pow se_int se_int) (se_call (O.o__law_draw) hk (pas_of (takes_of rfl rfl rfl rfl)) rfl T.m__law_draw T.F__law_draw.kp T.b__law_draw (sa_cons (se_var 0) (sa_cons (se_op os_add noX_add (se_op os_fdiv noX_fdiv (se_var 1) (se_op os_pow noX_pow se_int se_int)) se_int) sa_nil))))))) sb_nil)
    (sb_one (ss_ret (se_op os_mod noX_mod (se_var 8) (se_var 1))))))))))))))))
set_option maxHeartbeats 4000000 in
theorem sim_law_words {k : Nat} (T : Txt w K mg) (O : Oks P base T k) (cdv : Value) (A : Around) (outer : List Env) (s : Shared) (H : Hp) (E : XK) (hr : Room (2 * k + 3) (A.deeper (PyProof.Rows.envOfC "_law_words" (defScope s_law_words) s.heap.objs.size T.a__law_words cdv))) :
    SimB (cxOf (L2.CX P w) P w K mg base n_law_words "_law_words" (defScope s_law_words) T.a__law_words cdv A outer s H E) (fun cls d _ H2 => E cls d H2) (defBody s_law_words) (b_law_words (call k)) := by
  have nd := sc_law_words.nd
  have hk : Room (2 * k + 2) (A.deeper (PyProof.Rows.envOfC "_law_words" (defScope s_law_words) s.heap.objs.size T.a__law_words cdv)) := hr.mono (by omega)
  have hu66 := hr.un
  have hu64 : (A.deeper (PyProof.Rows.envOfC "_law_words" (defScope s_law_words) s.heap.objs.size T.a__law_words cdv)).units + 64 < cLine := by omega
  have hu1 : (A.deeper (PyProof.Rows.envOfC "_law_words" (defScope s_law_words) s.heap.objs.size T.a__law_words cdv)).units + 1 < cLine := by omega
  have hu67 : (A.deeper (PyProof.Rows.envOfC "_law_words" (defScope s_law_words) s.heap.objs.size T.a__law_words cdv)).units + 67 < cLine := by omega
  replace hu66 : (A.deeper (PyProof.Rows.envOfC "_law_words" (defScope s_law_words) s.heap.objs.size T.a__law_words cdv)).units + 66 < cLine := by omega
  exact (sb_cons (ss_set 2 nd rfl (by first | exact Or.inl rfl | exact Or.inr rfl) se_str)
    (sb_cons (ss_set 3 nd rfl (by first | exact Or.inl rfl | exact Or.inr rfl) (se_bm PySem.F.plainAttrs_str PySem.F.slot_str_split PySem.F.type_str_split ms_split se_str (sa_cons se_str sa_nil)))
    (sb_cons (ss_set 4 nd rfl (by first | exact Or.inl rfl | exact Or.inr rfl) (se_bm PySem.F.plainAttrs_str PySem.F.slot_str_join PySem.F.type_str_join ms_join se_str (sa_cons (SimL.val (sl_comp rfl nd (si_range1 rfl T.z_range (sa_cons (se_op os_add noX_add se_int (se_call (O.o__law_draw) hk (pas_of (takes_of rfl rfl rfl rfl)) rfl T.m__law_draw T.F__law_draw.kp T.b__law_draw (sa_cons (se_var 0) (sa_cons se_int sa_nil)))) sa_nil)) (blkOk_by (own := [("_law_k", 6)]) (N := n_law_words) (sc := defScope s_law_words) (by decide +kernel)) (fun _ _ _ _ _ => (sg_name 6 nd rfl (by first | exact Or.inl rfl | exact Or.inr rfl))) (fun _ _ _ _ _ => ts_nil) (fun _ _ _ _ _ => (se_ix hu1 (se_var 2) (se_call (O.o__law_draw) hk pas_none rfl T.m__law_draw T.F__law_draw.kp T.b__law_draw (sa_cons (se_var 0) (sa_cons se_int sa_nil))))))) sa_nil)))
    (sb_cons (ss_set 5 nd rfl (by first | exact Or.inl rfl | exact Or.inr rfl) (SimL.loc (sl_lst sa_nil)))
    (sb_cons (ss_for (passes_of rfl) rfl (si_range1 rfl T.z_range (sa_cons (se_var 1) sa_nil)) (sg_name 6 nd rfl (by first | exact Or.inl rfl | exact Or.inr rfl)) (sb_cons (ss_set 7 nd rfl (by first | exact Or.inl rfl | exact Or.inr rfl) (se_ix hu1 (se_var 2) (se_call (O.o__law_draw) hk (pas_of (takes_of rfl rfl rfl rfl)) rfl T.m__law_draw T.F__law_draw.kp T.b__law_draw (sa_cons (se_var 0) (sa_cons se_int sa_nil)))))
    (sb_cons (ss_set 8 nd rfl (by first | exact Or.inl rfl | exact Or.inr rfl) (SimL.val (sl_lst (sa_cons (se_var 4) (sa_cons (se_op os_add noX_add (se_var 4) (se_var 7)) (sa_cons (se_op os_add noX_add (se_var 7) (se_var 4)) (sa_cons (se_var 7) (sa_cons (se_op os_add noX_add (se_op os_add noX_add (se_var 4) (se_var 7)) (se_var 7)) (sa_cons (se_ix hu1 (se_var 3) (se_call (O.o__law_draw) hk (pas_of (takes_of rfl rfl rfl rfl)) rfl T.m__law_draw T.F__law_draw.kp T.b__law_draw (sa_cons (se_var 0) (sa_cons se_int sa_nil)))) sa_nil)))))))))
    (sb_cons (ss_set 9 nd rfl (by first | exact Or.inl rfl | exact Or.inr rfl) (se_slice (se_ix hu1 (se_var 8) (se_call (O.o__law_draw) hk (pas_of (takes_of rfl rfl rfl rfl)) rfl T.m__law_draw T.F__law_draw.kp T.b__law_draw (sa_cons (se_var 0) (sa_cons se_int sa_nil)))) so_none (so_some se_int)))
    (sb_cons (ss_for (passes_of rfl) rfl (si_str (se_var 2)) (sg_name 10 nd rfl (by first | exact Or.inl rfl | exact Or.inr rfl)) (sb_one (ss_if (SimW.t (sw_or (st_cmp (os_in hu66) noX_in (se_var 9) (se_var 5) (by rfl)) (sw_or1 (st_cmp (os_in hu66) noX_in (se_var 9) (se_tup (sa_cons se_str (sa_cons se_str (sa_cons se_str (sa_cons se_str (sa_cons se_str (sa_cons se_str (sa_cons se_str sa_nil)))))))) (by rfl))))) (sb_one (ss_set 9 nd rfl (by first | exact Or.inl rfl | exact Or.inr rfl) (se_op os_add noX_add (se_slice (se_var 9) so_none (so_some se_int)) (se_var 10)))) sb_nil)))
    (sb_one (ss_expr (se_bm PySem.F.plainAttrs_list PySem.F.slot_list_append PySem.F.type_list_append ms_append (se_var 5) (sa_cons (se_var 9) sa_nil)))))))))
    (sb_one (ss_ret (se_ice (se_var 5)))))))))
set_option maxHeartbeats 4000000 in
theorem sim_law_clause {k : Nat} (T : Txt w K mg) (O : Oks P base T k) (cdv : Value) (A : Around) (outer : List Env) (s : Shared) (H : Hp) (E : XK) (hr : Room (2 * k + 3) (A.deeper (PyProof.Rows.envOfC "_law_clause" (defScope s_law_clause) s.heap.objs.size T.a__law_clause cdv))) :
    SimB (cxOf (L2.CX P w) P w K mg base n_law_clause "_law_clause" (defScope s_law_clause) T.a__law_clause cdv A outer s H E) (fun cls d _ H2 => E cls d H2) (defBody s_law_clause) (b_law_clause (call k)) := by
  have nd := sc_law_clause.nd
  have hk : Room (2 * k + 2) (A.deeper (PyProof.Rows.envOfC "_law_clause" (defScope s_law_clause) s.heap.objs.size T.a__law_clause cdv)) := hr.mono (by omega)
  have hu66 := hr.un
  have hu64 : (A.deeper (PyProof.Rows.envOfC "_law_clause" (defScope s_law_clause) s.heap.objs.size T.a__law_clause cdv)).units + 64 < cLine := by omega
  have hu1 : (A.deeper (PyProof.Rows.envOfC "_law_clause" (defScope s_law_clause) s.heap.objs.size T.a__law_clause cdv)).units + 1 < cLine := by omega
  have hu67 : (A.deeper (PyProof.Rows.envOfC "_law_clause" (defScope s_law_clause) s.heap.objs.size T.a__law_clause cdv)).units + 67 < cLine := by omega
  replace hu66 : (A.deeper (PyProof.Rows.envOfC "_law_clause" (defScope s_law_clause) s.heap.objs.size T.a__law_clause cdv)).units + 66 < cLine := by omega
  exact (sb_cons (ss_set 3 nd rfl (by first | exact Or.inl rfl | exact Or.inr rfl) (SimL.loc (sl_callTy cl_list rfl T.z_list (by decide +kernel) (sa_cons (se_var 1) sa_nil))))
    (sb_cons (ss_set 4 nd rfl (by first | exact Or.inl rfl | exact Or.inr rfl) (SimL.loc (sl_lst sa_nil)))
    (sb_cons (ss_for (passes_of rfl) rfl (si_range1 rfl T.z_range (sa_cons (se_call (O.o__law_draw) hk (pas_of (takes_of rfl rfl rfl rfl)) rfl T.m__law_draw T.F__law_draw.kp T.b__law_draw (sa_cons (se_var 0) (sa_cons (se_op os_add noX_add (se_var 2) se_int) sa_nil))) sa_nil)) (sg_name 5 nd rfl (by first | exact Or.inl rfl | exact Or.inr rfl)) (sb_one (ss_if (st_cmp (os_ne hu64) noX_ne (se_var 3) (SimL.val (sl_lst sa_nil)) (nomark _)) (sb_cons (ss_set 6 nd rfl (by first | exact Or.inl rfl | exact Or.inr rfl) (se_bm PySem.F.plainAttrs_list PySem.F.slot_list_pop PySem.F.type_list_pop ms_popL (se_var 3) (sa_cons (se_call (O.o__law_draw) hk (pas_of (takes_of rfl rfl rfl rfl)) rfl T.m__law_draw T.F__law_draw.kp T.b__law_draw (sa_cons (se_var 0) (sa_cons (se_callB cs_len rfl T.z_len (by decide +kernel) (sa_cons (se_var 3) sa_nil)) sa_nil))) sa_nil)))
    (sb_one (ss_expr (se_bm PySem.F.plainAttrs_list PySem.F.slot_list_append PySem.F.type_list_append ms_append (se_var 4) (sa_cons (se_tup (sa_cons (se_var 6) (sa_cons (se_cmp (os_eq hu64) noX_eq (se_call (O.o__law_draw) hk (pas_of (takes_of rfl rfl rfl rfl)) rfl T.m__law_draw T.F__law_draw.kp T.b__law_draw (sa_cons (se_var 0) (sa_cons se_int sa_nil))) se_int (nomark _)) sa_nil))) sa_nil))))) sb_nil)))
    (sb_one (ss_ret (se_callTy cs_tuple rfl T.z_tuple (by decide +kernel) (sa_cons (SimL.val (sl_callB (cl_sortedA rfl hu64) rfl T.z_sorted (by decide +kernel) (sa_cons (se_var 4) sa_nil))) sa_nil)))))))
set_option maxHeartbeats 4000000 in
theorem sim_law_joined {k : Nat} (T : Txt w K mg) (O : Oks P base T k) (cdv : Value) (A : Around) (outer : List Env) (s : Shared) (H : Hp) (E : XK) (hr : Room (2 * k + 3) (A.deeper (PyProof.Rows.envOfC "_law_joined" (defScope s_law_joined) s.heap.objs.size T.a__law_joined cdv))) :
    SimB (cxOf (L2.CX P w) P w K mg base n_law_joined "_law_joined" (defScope s_law_joined) T.a__law_joined cdv A outer s H E) (fun cls d _ H2 => E cls d H2) (defBody s_law_joined) (b_law_joined (call k)) := by
  have nd := sc_law_joined.nd
  have hk : Room (2 * k + 2) (A.deeper (PyProof.Rows.envOfC "_law_joined" (defScope s_law_joined) s.heap.objs.size T.a__law_joined cdv)) := hr.mono (by omega)
  have hu66 := hr.un
  have hu64 : (A.deeper (PyProof.Rows.envOfC "_law_joined" (defScope s_law_joined) s.heap.objs.size T.a__law_joined cdv)).units + 64 < cLine := by omega
  have hu1 : (A.deeper (PyProof.Rows.envOfC "_law_joined" (defScope s_law_joined) s.heap.objs.size T.a__law_joined cdv)).units + 1 < cLine := by omega
  have hu67 : (A.deeper (PyProof.Rows.envOfC "_law_joined" (defScope s_law_joined) s.heap.objs.size T.a__law_joined cdv)).units + 67 < cLine := by omega
  replace hu66 : (A.deeper (PyProof.Rows.envOfC "_law_joined" (defScope s_law_joined) s.heap.objs.size T.a__law_joined cdv)).units + 66 < cLine := by omega
  exact (sb_cons (ss_set 1 nd rfl (by first | exact Or.inl rfl | exact Or.inr rfl) (SimL.val (sl_sortSetA rfl hu64 rfl T.z_sorted rfl T.z_set (sa_cons (se_var 0) sa_nil))))
    (sb_cons (And.left (ss_setComp 2 rfl nd rfl rfl (sw_true rfl rfl rfl (by decide +kernel)) (si_list (se_var 1)) (blkOk_by (own := [("_law_name", 3), ("_law_yes", 4)]) (N := n_law_joined) (sc := defScope s_law_joined) (by decide +kernel)) (fun _ _ _ _ _ => (sg_tup rfl (sg_cons (sg_name 3 nd rfl (by first | exact Or.inl rfl | exact Or.inr rfl)) (sg_cons (sg_name 4 nd rfl (by first | exact Or.inl rfl | exact Or.inr rfl)) sg_nil)))) (fun _ _ _ _ _ => ts_nil) (fun _ _ _ _ _ => (se_var 3))))
    (sb_one (ss_ret (se_if (st_cmp (os_eq hu64) noX_eq (se_lenSetA rfl hu64 rfl T.z_len rfl T.z_set (sa_cons (se_var 2) sa_nil)) (se_callB cs_len rfl T.z_len (by decide +kernel) (sa_cons (se_var 2) sa_nil)) (nomark _)) (se_callTy cs_tuple rfl T.z_tuple (by decide +kernel) (sa_cons (se_var 1) sa_nil)) se_non)))))
set_option maxHeartbeats 4000000 in
theorem sim_law_fresh {k : Nat} (T : Txt w K mg) (O : Oks P base T k) (cdv : Value) (A : Around) (outer : List Env) (s : Shared) (H : Hp) (E : XK) (hr : Room (2 * k + 3) (A.deeper (PyProof.Rows.envOfC "_law_fresh" (defScope s_law_fresh) s.heap.objs.size T.a__law_fresh cdv))) :
    SimB (cxOf (L2.CX P w) P w K mg base n_law_fresh "_law_fresh" (defScope s_law_fresh) T.a__law_fresh cdv A outer s H E) (fun cls d _ H2 => E cls d H2) (defBody s_law_fresh) (b_law_fresh (call k)) := by
  have nd := sc_law_fresh.nd
  have hk : Room (2 * k + 2) (A.deeper (PyProof.Rows.envOfC "_law_fresh" (defScope s_law_fresh) s.heap.objs.size T.a__law_fresh cdv)) := hr.mono (by omega)
  have hu66 := hr.un
  have hu64 : (A.deeper (PyProof.Rows.envOfC "_law_fresh" (defScope s_law_fresh) s.heap.objs.size T.a__law_fresh cdv)).units + 64 < cLine := by omega
  have hu1 : (A.deeper (PyProof.Rows.envOfC "_law_fresh" (defScope s_law_fresh) s.heap.objs.size T.a__law_fresh cdv)).units + 1 < cLine := by omega
  have hu67 : (A.deeper (PyProof.Rows.envOfC "_law_fresh" (defScope s_law_fresh) s.heap.objs.size T.a__law_fresh cdv)).units + 67 < cLine := by omega
  replace hu66 : (A.deeper (PyProof.Rows.envOfC "_law_fresh" (defScope s_law_fresh) s.heap.objs.size T.a__law_fresh cdv)).units + 66 < cLine := by omega
  exact (sb_cons (ss_set 2 nd rfl (by first | exact Or.inl rfl | exact Or.inr rfl) (se_call (O.o__law_words) hk (pas_of (takes_of rfl rfl rfl rfl)) rfl T.m__law_words T.F__law_words.kp T.b__law_words (sa_cons (se_var 0) (sa_cons (se_var 1) sa_nil))))
    (sb_one (ss_ret (SimL.val (sl_comp rfl nd (si_list (se_var 2)) (blkOk_by (own := [("_law_word", 3)]) (N := n_law_fresh) (sc := defScope s_law_fresh) (by decide +kernel)) (fun _ _ _ _ _ => (sg_name 3 nd rfl (by first | exact Or.inl rfl | exact Or.inr rfl))) (fun _ _ _ _ _ => ts_nil) (fun _ _ _ _ _ => (se_op os_add noX_add (se_slice (se_var 3) so_none (so_some se_int)) (se_ix hu1 (SimL.val (sl_lst (sa_cons se_str (sa_cons se_str (sa_cons se_str (sa_cons se_str (sa_cons se_str (sa_cons se_str sa_nil)))))))) (se_call (O.o__law_draw) hk pas_none rfl T.m__law_draw T.F__law_draw.kp T.b__law_draw (sa_cons (se_var 0) (sa_cons se_int sa_nil)))))))))))
set_option maxHeartbeats 4000000 in
theorem sim_law_grown {k : Nat} (T : Txt w K mg) (O : Oks P base T k) (cdv : Value) (A : Around) (outer : List Env) (s : Shared) (H : Hp) (E : XK) (hr : Room (2 * k + 3) (A.deeper (PyProof.Rows.envOfC "_law_grown" (defScope s_law_grown) s.heap.objs.size T.a__law_grown cdv))) :
    SimB (cxOf (L2.CX P w) P w K mg base n_law_grown "_law_grown" (defScope s_law_grown) T.a__law_grown cdv A outer s H E) (fun cls d _ H2 => E cls d H2) (defBody s_law_grown) (b_law_grown (call k)) := by
  have nd := sc_law_grown.nd
  have hk : Room (2 * k + 2) (A.deeper (PyProof.Rows.envOfC "_law_grown" (defScope s_law_grown) s.heap.objs.size T.a__law_grown cdv)) := hr.mono (by omega)
  have hu66 := hr.un
  have hu64 : (A.deeper (PyProof.Rows.envOfC "_law_grown" (defScope s_law_grown) s.heap.objs.size T.a__law_grown cdv)).units + 64 < cLine := by omega
  have hu1 : (A.deeper (PyProof.Rows.envOfC "_law_grown" (defScope s_law_grown) s.heap.objs.size T.a__law_grown cdv)).units + 1 < cLine := by omega
  have hu67 : (A.deeper (PyProof.Rows.envOfC "_law_grown" (defScope s_law_grown) s.heap.objs.size T.a__law_grown cdv)).units + 67 < cLine := by omega
  replace hu66 : (A.deeper (PyProof.Rows.envOfC "_law_grown" (defScope s_law_grown) s.heap.objs.size T.a__law_grown cdv)).units + 66 < cLine := by omega
  exact (sb_cons (And.left (ss_setComp 4 rfl nd rfl rfl (sw_true rfl rfl rfl (by decide +kernel)) (si_list (se_ix hu1 (se_var 1) se_str)) (blkOk_by (own := [("_law_name", 6)]) (N := n_law_grown) (sc := defScope s_law_grown) (by decide +kernel)) (fun _ _ _ _ _ => (sg_name 6 nd rfl (by first | exact Or.inl rfl | exact Or.inr rfl))) (fun _ _ _ _ _ => (ts_one (SimW.t (sw_and (st_cmp (os_ninA hu66) noX_ninA (se_tup (sa_cons (se_var 6) (sa_cons se_bl sa_nil))) (se_var 2) (by rfl)) (sw_and1 (st_cmp (os_ninA hu66) noX_ninA (se_tup (sa_cons (se_var 6) (sa_cons se_bl sa_nil))) (se_var 2) (by rfl))))))) (fun _ _ _ _ _ => (se_var 6))))
    (sb_cons (And.left (ss_setComp 5 rfl nd rfl rfl (sw_true rfl rfl rfl (by decide +kernel)) (si_range1 rfl T.z_range (sa_cons (se_callB cs_len rfl T.z_len (by decide +kernel) (sa_cons (se_ix hu1 (se_var 1) se_str) sa_nil)) sa_nil)) (blkOk_by (own := [("_law_k", 12)]) (N := n_law_grown) (sc := defScope s_law_grown) (by decide +kernel)) (fun _ _ _ _ _ => (sg_name 12 nd rfl (by first | exact Or.inl rfl | exact Or.inr rfl))) (fun _ _ _ _ _ => (ts_one (st_cmp (os_eq hu64) noX_eq (se_ix hu1 (se_ix hu1 (se_var 1) se_str) (se_var 12)) (se_var 2) (nomark _)))) (fun _ _ _ _ _ => (se_var 12))))
    (sb_cons (ss_if (SimW.t (sw_and (st_cmp (os_ne hu64) noX_ne (se_var 5) (SimL.val (sl_lst sa_nil)) (nomark _)) (sw_and1 (st_cmp os_gt noX_gt (se_call (O.o__law_draw) hk (pas_of (takes_of rfl rfl rfl rfl)) rfl T.m__law_draw T.F__law_draw.kp T.b__law_draw (sa_cons (se_var 0) (sa_cons se_int sa_nil))) se_int (nomark _))))) (sb_one (ss_ret (se_ix hu1 (se_var 5) (se_un us_neg se_int)))) sb_nil)
    (sb_cons (ss_if (SimW.t (sw_or (st_cmp (os_eq hu64) noX_eq (se_var 4) (SimL.val (sl_lst sa_nil)) (nomark _)) (sw_or (st_cmp os_lt noX_lt (se_var 3) se_int (nomark _)) (sw_or (st_cmp os_lt noX_lt (se_ix hu1 (se_var 1) se_str) se_int (nomark _)) (sw_or1 (SimW.t (sw_and (st_cmp (os_ne hu64) noX_ne (se_var 2) (se_tup sa_nil) (nomark _)) (sw_and1 (st_cmp (os_eq hu64) noX_eq (se_call (O.o__law_draw) hk (pas_of (takes_of rfl rfl rfl rfl)) rfl T.m__law_draw T.F__law_draw.kp T.b__law_draw (sa_cons (se_var 0) (sa_cons se_int sa_nil))) se_int (nomark _)))))))))) (sb_one (ss_expr (se_bm PySem.F.plainAttrs_list PySem.F.slot_list_append PySem.F.type_list_append ms_append (se_ix hu1 (se_var 1) se_str) (sa_cons (se_tup (sa_cons se_str (sa_cons (se_var 2) sa_nil))) sa_nil)))) (sb_cons (ss_store hu1 (se_op os_sub noX_sub (se_ix hu1 (se_var 1) se_str) se_int) (se_var 1) se_str)
    (sb_cons (ss_set 6 nd rfl (by first | exact Or.inl rfl | exact Or.inr rfl) (se_ix hu1 (se_var 4) (se_call (O.o__law_draw) hk (pas_of (takes_of rfl rfl rfl rfl)) rfl T.m__law_draw T.F__law_draw.kp T.b__law_draw (sa_cons (se_var 0) (sa_cons (se_callB cs_len rfl T.z_len (by decide +kernel) (sa_cons (se_var 4) sa_nil)) sa_nil)))))
    (sb_cons (ss_set 7 nd rfl (by first | exact Or.inl rfl | exact Or.inr rfl) (SimL.val (sl_comp rfl nd (si_tup (se_var 2)) (blkOk_by (own := [("_law_literal", 13)]) (N := n_law_grown) (sc := defScope s_law_grown) (by decide +kernel)) (fun _ _ _ _ _ => (sg_name 13 nd rfl (by first | exact Or.inl rfl | exact Or.inr rfl))) (fun _ _ _ _ _ => ts_nil) (fun _ _ _ _ _ => (se_call (O.o__law_draw) hk pas_none rfl T.m__law_draw T.F__law_draw.kp T.b__law_draw (sa_cons (se_var 0) (sa_cons se_int sa_nil)))))))
    (sb_cons (ss_set 8 nd rfl (by first | exact Or.inl rfl | exact Or.inr rfl) (se_op os_add noX_add (SimL.val (sl_comp rfl nd (si_range1 rfl T.z_range (sa_cons (se_callB cs_len rfl T.z_len (by decide +kernel) (sa_cons (se_var 2) sa_nil)) sa_nil)) (blkOk_by (own := [("_law_k", 12)]) (N := n_law_grown) (sc := defScope s_law_grown) (by decide +kernel)) (fun _ _ _ _ _ => (sg_name 12 nd rfl (by first | exact Or.inl rfl | exact Or.inr rfl))) (fun _ _ _ _ _ => (ts_one (st_cmp os_lt noX_lt (se_ix hu1 (se_var 7) (se_var 12)) se_int (nomark _)))) (fun _ _ _ _ _ => (se_ix hu1 (se_var 2) (se_var 12))))) (SimL.val (sl_lst (sa_cons (se_tup (sa_cons (se_var 6) (sa_cons se_bl sa_nil))) sa_nil)))))
    (sb_cons (ss_set 9 nd rfl (by first | exact Or.inl rfl | exact Or.inr rfl) (se_op os_add noX_add (SimL.val (sl_comp rfl nd (si_range1 rfl T.z_range (sa_cons (se_callB cs_len rfl T.z_len (by decide +kernel) (sa_cons (se_var 2) sa_nil)) sa_nil)) (blkOk_by (own := [("_law_k", 12)]) (N := n_law_grown) (sc := defScope s_law_grown) (by decide +kernel)) (fun _ _ _ _ _ => (sg_name 12 nd rfl (by first | exact Or.inl rfl | exact Or.inr rfl))) (fun _ _ _ _ _ => (ts_one (st_cmp os_gt noX_gt (se_ix hu1 (se_var 7) (se_var 12)) se_int (nomark _)))) (fun _ _ _ _ _ => (se_ix hu1 (se_var 2) (se_var 12))))) (SimL.val (sl_lst (sa_cons (se_tup (sa_cons (se_var 6) (sa_cons se_bl sa_nil))) sa_nil)))))
    (sb_cons (ss_set 10 nd rfl (by first | exact Or.inl rfl | exact Or.inr rfl) (se_call (O.o__law_grown) hk (pas_of (takes_of rfl rfl rfl rfl)) rfl T.m__law_grown T.F__law_grown.kp T.b__law_grown (sa_cons (se_var 0) (sa_cons (se_var 1) (sa_cons (se_callTy cs_tuple rfl T.z_tuple (by decide +kernel) (sa_cons (SimL.val (sl_callB (cl_sortedA rfl hu64) rfl T.z_sorted (by decide +kernel) (sa_cons (se_var 8) sa_nil))) sa_nil)) (sa_cons (se_op os_sub noX_sub (se_var 3) se_int) sa_nil))))))
    (sb_cons (ss_set 11 nd rfl (by first | exact Or.inl rfl | exact Or.inr rfl) (se_call (O.o__law_grown) hk (pas_of (takes_of rfl rfl rfl rfl)) rfl T.m__law_grown T.F__law_grown.kp T.b__law_grown (sa_cons (se_var 0) (sa_cons (se_var 1) (sa_cons (se_callTy cs_tuple rfl T.z_tuple (by decide +kernel) (sa_cons (SimL.val (sl_callB (cl_sortedA rfl hu64) rfl T.z_sorted (by decide +kernel) (sa_cons (se_var 9) sa_nil))) sa_nil)) (sa_cons (se_op os_sub noX_sub (se_var 3) se_int) sa_nil))))))
    (sb_one (ss_expr (se_bm PySem.F.plainAttrs_list PySem.F.slot_list_append PySem.F.type_list_append ms_append (se_ix hu1 (se_var 1) se_str) (sa_cons (se_tup (sa_cons se_str (sa_cons (se_var 10) (sa_cons (se_var 11) (sa_cons (se_var 6) sa_nil))))) sa_nil))))))))))))
    (sb_cons (ss_expr (se_bm PySem.F.plainAttrs_list PySem.F.slot_list_append PySem.F.type_list_append ms_append (se_ix hu1 (se_var 1) se_str) (sa_cons (se_var 2) sa_nil)))
    (sb_one (ss_ret (se_op os_sub noX_sub (se_callB cs_len rfl T.z_len (by decide +kernel) (sa_cons (se_ix hu1 (se_var 1) se_str) sa_nil)) se_int))))))))
set_option maxHeartbeats 4000000 in
theorem sim_law_chain {k : Nat} (T : Txt w K mg) (O : Oks P base T k) (cdv : Value) (A : Around) (outer : List Env) (s : Shared) (H : Hp) (E : XK) (hr : Room (2 * k + 3) (A.deeper (PyProof.Rows.envOfC "_law_chain" (defScope s_law_chain) s.heap.objs.size T.a__law_chain cdv))) :
    SimB (cxOf (L2.CX P w) P w K mg base n_law_chain "_law_chain" (defScope s_law_chain) T.a__law_chain cdv A outer s H E) (fun cls d _ H2 => E cls d H2) (defBody s_law_chain) (b_law_chain (call k)) := by
  have nd := sc_law_chain.nd
  have hk : Room (2 * k + 2) (A.deeper (PyProof.Rows.envOfC "_law_chain" (defScope s_law_chain) s.heap.objs.size T.a__law_chain cdv)) := hr.mono (by omega)
  have hu66 := hr.un
  have hu64 : (A.deeper (PyProof.Rows.envOfC "_law_chain" (defScope s_law_chain) s.heap.objs.size T.a__law_chain cdv)).units + 64 < cLine := by omega
  have hu1 : (A.deeper (PyProof.Rows.envOfC "_law_chain" (defScope s_law_chain) s.heap.objs.size T.a__law_chain cdv)).units + 1 < cLine := by omega
  have hu67 : (A.deeper (PyProof.Rows.envOfC "_law_chain" (defScope s_law_chain) s.heap.objs.size T.a__law_chain cdv)).units + 67 < cLine := by omega
  replace hu66 : (A.deeper (PyProof.Rows.envOfC "_law_chain" (defScope s_law_chain) s.heap.objs.size T.a__law_chain cdv)).units + 66 < cLine := by omega
  exact (sb_cons (ss_set 5 nd rfl (by first | exact Or.inl rfl | exact Or.inr rfl) (SimD.loc (sd_disp (sp_cons se_str (se_var 1) (sp_cons se_str (SimL.loc (sl_lst sa_nil)) (sp_cons se_str (SimL.loc (sl_lst sa_nil)) (sp_cons se_str (se_var 3) sp_nil)))))))
    (sb_cons (ss_expr (se_call (O.o__law_grown) hk (pas_of (takes_of rfl rfl rfl rfl)) rfl T.m__law_grown T.F__law_grown.kp T.b__law_grown (sa_cons (se_var 0) (sa_cons (se_var 5) (sa_cons (se_var 2) (sa_cons (se_var 4) sa_nil))))))
    (sb_one (ss_ret (se_tup (sa_cons (se_ice (se_ix hu1 (se_var 5) se_str)) (sa_cons (se_ice (se_ix hu1 (se_var 5) se_str)) sa_nil)))))))
set_option maxHeartbeats 4000000 in
theorem sim_law_padded {k : Nat} (T : Txt w K mg) (O : Oks P base T k) (cdv : Value) (A : Around) (outer : List Env) (s : Shared) (H : Hp) (E : XK) (hr : Room (2 * k + 3) (A.deeper (PyProof.Rows.envOfC "_law_padded" (defScope s_law_padded) s.heap.objs.size T.a__law_padded cdv))) :
    SimB (cxOf (L2.CX P w) P w K mg base n_law_padded "_law_padded" (defScope s_law_padded) T.a__law_padded cdv A outer s H E) (fun cls d _ H2 => E cls d H2) (defBody s_law_padded) (b_law_padded (call k)) := by
  have nd := sc_law_padded.nd
  have hk : Room (2 * k + 2) (A.deeper (PyProof.Rows.envOfC "_law_padded" (defScope s_law_padded) s.heap.objs.size T.a__law_padded cdv)) := hr.mono (by omega)
  have hu66 := hr.un
  have hu64 : (A.deeper (PyProof.Rows.envOfC "_law_padded" (defScope s_law_padded) s.heap.objs.size T.a__law_padded cdv)).units + 64 < cLine := by omega
  have hu1 : (A.deeper (PyProof.Rows.envOfC "_law_padded" (defScope s_law_padded) s.heap.objs.size T.a__law_padded cdv)).units + 1 < cLine := by omega
  have hu67 : (A.deeper (PyProof.Rows.envOfC "_law_padded" (defScope s_law_padded) s.heap.objs.size T.a__law_padded cdv)).units + 67 < cLine := by omega
  replace hu66 : (A.deeper (PyProof.Rows.envOfC "_law_padded" (defScope s_law_padded) s.heap.objs.size T.a__law_padded cdv)).units + 66 < cLine := by omega
  exact (sb_cons (ss_set 4 nd rfl (by first | exact Or.inl rfl | exact Or.inr rfl) (SimL.loc (sl_lst sa_nil)))
    (sb_cons (ss_set 5 nd rfl (by first | exact Or.inl rfl | exact Or.inr rfl) (SimL.loc (sl_lst sa_nil)))
    (sb_cons (ss_set 6 nd rfl (by first | exact Or.inl rfl | exact Or.inr rfl) (SimL.loc (sl_lst sa_nil)))
    (sb_cons (ss_for (passes_of rfl) rfl (si_zip rfl T.z_zip (sa_cons (se_var 1) (sa_cons (se_var 2) sa_nil))) (sg_tup rfl (sg_cons (sg_name 7 nd rfl (by first | exact Or.inl rfl | exact Or.inr rfl)) (sg_cons (sg_name 8 nd rfl (by first | exact Or.inl rfl | exact Or.inr rfl)) sg_nil))) (sb_cons (ss_for (passes_of rfl) rfl (si_range1 rfl T.z_range (sa_cons (se_callB (cs_max rfl) rfl T.z_max (by decide +kernel) (sa_cons se_int (sa_cons (se_op os_sub noX_sub (se_call (O.o__law_draw) hk (pas_of (takes_of rfl rfl rfl rfl)) rfl T.m__law_draw T.F__law_draw.kp T.b__law_draw (sa_cons (se_var 0) (sa_cons se_int sa_nil))) se_int) sa_nil))) sa_nil)) (sg_name 9 nd rfl (by first | exact Or.inl rfl | exact Or.inr rfl)) (sb_cons (ss_set 10 nd rfl (by first | exact Or.inl rfl | exact Or.inr rfl) (se_ix hu1 (SimL.val (sl_lst (sa_cons (se_tup (sa_cons se_str (sa_cons (se_var 8) sa_nil))) (sa_cons (se_tup (sa_cons se_str (sa_cons (se_call (O.o__law_clause) hk (pas_of (takes_of rfl rfl rfl rfl)) rfl T.m__law_clause T.F__law_clause.kp T.b__law_clause (sa_cons (se_var 0) (sa_cons (se_var 3) (sa_cons se_int sa_nil)))) sa_nil))) sa_nil)))) (se_call (O.o__law_draw) hk (pas_of (takes_of rfl rfl rfl rfl)) rfl T.m__law_draw T.F__law_draw.kp T.b__law_draw (sa_cons (se_var 0) (sa_cons se_int sa_nil)))))
    (sb_cons (ss_expr (se_bm PySem.F.plainAttrs_list PySem.F.slot_list_append PySem.F.type_list_append ms_append (se_var 4) (sa_cons (se_var 10) sa_nil)))
    (sb_one (ss_expr (se_bm PySem.F.plainAttrs_list PySem.F.slot_list_append PySem.F.type_list_append ms_append (se_var 5) (sa_cons (se_ix hu1 (se_var 10) se_int) sa_nil)))))))
    (sb_cons (ss_expr (se_bm PySem.F.plainAttrs_list PySem.F.slot_list_append PySem.F.type_list_append ms_append (se_var 4) (sa_cons (se_if (st_cmp (os_eq hu64) noX_eq (se_ix hu1 (se_var 7) se_int) se_str (nomark _)) (se_var 7) (se_tup (sa_cons se_str (sa_cons (se_ix hu1 (se_var 6) (se_ix hu1 (se_var 7) se_int)) (sa_cons (se_ix hu1 (se_var 6) (se_ix hu1 (se_var 7) se_int)) (sa_cons (se_ix hu1 (se_var 7) se_int) sa_nil)))))) sa_nil)))
    (sb_cons (ss_expr (se_bm PySem.F.plainAttrs_list PySem.F.slot_list_append PySem.F.type_list_append ms_append (se_var 5) (sa_cons (se_var 8) sa_nil)))
    (sb_one (ss_expr (se_bm PySem.F.plainAttrs_list PySem.F.slot_list_append PySem.F.type_list_append ms_append (se_var 6) (sa_cons (se_op os_sub noX_sub (se_callB cs_len rfl T.z_len (by decide +kernel) (sa_cons (se_var 4) sa_nil)) se_int) sa_nil))))))))
    (sb_one (ss_ret (se_tup (sa_cons (se_ice (se_var 4)) (sa_cons (se_ice (se_var 5)) sa_nil)))))))))
set_option maxHeartbeats 4000000 in
theorem sim_law {k : Nat} (T : Txt w K mg) (O : Oks P base T k) (cdv : Value) (A : Around) (outer : List Env) (s : Shared) (H : Hp) (E : XK) (hr : Room (2 * k + 3) (A.deeper (PyProof.Rows.envOfC "law" (defScope s_law) s.heap.objs.size T.a_law cdv))) :
    SimB (cxOf (L2.CX P w) P w K mg base n_law "law" (defScope s_law) T.a_law cdv A outer s H E) (fun cls d _ H2 => E cls d H2) (defBody s_law) (b_law (call k)) := by
  have nd := sc_law.nd
  have hk : Room (2 * k + 2) (A.deeper (PyProof.Rows.envOfC "law" (defScope s_law) s.heap.objs.size T.a_law cdv)) := hr.mono (by omega)
  have hu66 := hr.un
  have hu64 : (A.deeper (PyProof.Rows.envOfC "law" (defScope s_law) s.heap.objs.size T.a_law cdv)).units + 64 < cLine := by omega
  have hu1 : (A.deeper (PyProof.Rows.envOfC "law" (defScope s_law) s.heap.objs.size T.a_law cdv)).units + 1 < cLine := by omega
  have hu67 : (A.deeper (PyProof.Rows.envOfC "law" (defScope s_law) s.heap.objs.size T.a_law cdv)).units + 67 < cLine := by omega
  replace hu66 : (A.deeper (PyProof.Rows.envOfC "law" (defScope s_law) s.heap.objs.size T.a_law cdv)).units + 66 < cLine := by omega
  exact (sb_cons (ss_set 1 nd rfl (by first | exact Or.inl rfl | exact Or.inr rfl) (se_call (O.o__law_tape) hk (pas_of (takes_of rfl rfl rfl rfl)) rfl T.m__law_tape T.F__law_tape.kp T.b__law_tape (sa_cons (se_var 0) sa_nil)))
    (sb_cons (ss_set 2 nd rfl (by first | exact Or.inl rfl | exact Or.inr rfl) (se_call (O.o__law_fresh) hk (pas_of (takes_of rfl rfl rfl rfl)) rfl T.m__law_fresh T.F__law_fresh.kp T.b__law_fresh (sa_cons (se_var 1) (sa_cons se_int sa_nil))))
    (sb_cons (ss_for (passes_of rfl) rfl (si_range1 rfl T.z_range (sa_cons se_int sa_nil)) (sg_name 3 nd rfl (by first | exact Or.inl rfl | exact Or.inr rfl)) (sb_cons (ss_asg (se_call (O.o__law_chain) hk (pas_of (takes_of rfl rfl rfl rfl)) rfl T.m__law_chain T.F__law_chain.kp T.b__law_chain (sa_cons (se_var 1) (sa_cons (se_var 2) (sa_cons (se_call (O.o__law_clause) hk (pas_of (takes_of rfl rfl rfl rfl)) rfl T.m__law_clause T.F__law_clause.kp T.b__law_clause (sa_cons (se_var 1) (sa_cons (se_var 2) (sa_cons se_int sa_nil)))) (sa_cons (se_ix hu1 (SimL.val (sl_lst (sa_cons se_int (sa_cons se_int (sa_cons se_int sa_nil))))) (se_op os_mod noX_mod (se_var 3) se_int)) (sa_cons se_int sa_nil)))))) (sg_tup rfl (sg_cons (sg_name 4 nd rfl (by first | exact Or.inl rfl | exact Or.inr rfl)) (sg_cons (sg_name 5 nd rfl (by first | exact Or.inl rfl | exact Or.inr rfl)) sg_nil))))
    (sb_cons (ss_if (st_cmp os_gt noX_gt (se_var 3) se_int (nomark _)) (sb_one (ss_asg (se_call (O.o__law_padded) hk (pas_of (takes_of rfl rfl rfl rfl)) rfl T.m__law_padded T.F__law_padded.kp T.b__law_padded (sa_cons (se_var 1) (sa_cons (se_var 4) (sa_cons (se_var 5) (sa_cons (se_var 2) sa_nil))))) (sg_tup rfl (sg_cons (sg_name 4 nd rfl (by first | exact Or.inl rfl | exact Or.inr rfl)) (sg_cons (sg_name 5 nd rfl (by first | exact Or.inl rfl | exact Or.inr rfl)) sg_nil))))) sb_nil)
    (sb_cons (ss_set 6 nd rfl (by first | exact Or.inl rfl | exact Or.inr rfl) (se_make (O.o_Chain___init__) (hr.mono (by omega)) (pas_of (takes_of rfl rfl rfl rfl)) rfl T.mc_Chain T.mk_Chain T.b_Chain___init__ (sa_cons (se_var 4) sa_nil)))
    (sb_cons (And.left (ss_setComp 7 rfl nd rfl rfl (sw_true rfl rfl rfl (by decide +kernel)) (si_list (se_var 4)) (blkOk_by (own := [("_law_step", 18)]) (N := n_law) (sc := defScope s_law) (by decide +kernel)) (fun _ _ _ _ _ => (sg_name 18 nd rfl (by first | exact Or.inl rfl | exact Or.inr rfl))) (fun _ _ _ _ _ => (ts_one (st_cmp (os_eq hu64) noX_eq (se_ix hu1 (se_var 18) se_int) se_str (nomark _)))) (fun _ _ _ _ _ => (se_ix hu1 (se_var 18) se_int))))
    (sb_cons (ss_set 8 nd rfl (by first | exact Or.inl rfl | exact Or.inr rfl) (se_op os_add noX_add (SimL.val (sl_sortSetA rfl hu64 rfl T.z_sorted rfl T.z_set (sa_cons (se_var 7) sa_nil))) (SimL.val (sl_comp rfl nd (si_range1 rfl T.z_range (sa_cons (se_call (O.o__law_draw) hk (pas_of (takes_of rfl rfl rfl rfl)) rfl T.m__law_draw T.F__law_draw.kp T.b__law_draw (sa_cons (se_var 1) (sa_cons se_int sa_nil))) sa_nil)) (blkOk_by (own := [("_law_k", 22)]) (N := n_law) (sc := defScope s_law) (by decide +kernel)) (fun _ _ _ _ _ => (sg_name 22 nd rfl (by first | exact Or.inl rfl | exact Or.inr rfl))) (fun _ _ _ _ _ => ts_nil) (fun _ _ _ _ _ => (se_call (O.o__law_clause) hk pas_none rfl T.m__law_clause T.F__law_clause.kp T.b__law_clause (sa_cons (se_var 1) (sa_cons (se_var 2) (sa_cons se_int sa_nil)))))))))
    (sb_cons (ss_set 9 nd rfl (by first | exact Or.inl rfl | exact Or.inr rfl) (se_call (O.o__law_draw) hk (pas_of (takes_of rfl rfl rfl rfl)) rfl T.m__law_draw T.F__law_draw.kp T.b__law_draw (sa_cons (se_var 1) (sa_cons (se_callB cs_len rfl T.z_len (by decide +kernel) (sa_cons (se_var 8) sa_nil)) sa_nil))))
    (sb_cons (ss_set 8 nd rfl (by first | exact Or.inl rfl | exact Or.inr rfl) (se_op os_add noX_add (se_slice (se_var 8) (so_some (se_var 9)) so_none) (se_slice (se_var 8) so_none (so_some (se_var 9)))))
    (sb_cons (ss_set 10 nd rfl (by first | exact Or.inl rfl | exact Or.inr rfl) (se_call (O.o__law_draw) hk (pas_of (takes_of rfl rfl rfl rfl)) rfl T.m__law_draw T.F__law_draw.kp T.b__law_draw (sa_cons (se_var 1) (sa_cons (se_callB cs_len rfl T.z_len (by decide +kernel) (sa_cons (se_var 8) sa_nil)) sa_nil))))
    (sb_cons (ss_set 11 nd rfl (by first | exact Or.inl rfl | exact Or.inr rfl) (se_ix hu1 (se_var 8) (se_var 10)))
    (sb_cons (ss_set 12 nd rfl (by first | exact Or.inl rfl | exact Or.inr rfl) (se_op os_add noX_add (se_callTy cs_tuple rfl T.z_tuple (by decide +kernel) (sa_cons (SimL.val (sl_comp rfl nd (si_tup (se_slice (se_var 11) so_none (so_some se_int))) (blkOk_by (own := [("_law_name", 23), ("_law_yes", 24)]) (N := n_law) (sc := defScope s_law) (by decide +kernel)) (fun _ _ _ _ _ => (sg_tup rfl (sg_cons (sg_name 23 nd rfl (by first | exact Or.inl rfl | exact Or.inr rfl)) (sg_cons (sg_name 24 nd rfl (by first | exact Or.inl rfl | exact Or.inr rfl)) sg_nil)))) (fun _ _ _ _ _ => ts_nil) (fun _ _ _ _ _ => (se_tup (sa_cons (se_var 23) (sa_cons (se_not (se_var 24)) sa_nil)))))) sa_nil)) (se_slice (se_var 11) (so_some se_int) so_none)))
    (sb_cons (ss_set 13 nd rfl (by first | exact Or.inl rfl | exact Or.inr rfl) (SimL.val (sl_lst (sa_cons (se_var 8) (sa_cons (SimL.val (sl_rev (se_var 8))) (sa_cons (se_op os_add noX_add (se_slice (se_var 8) so_none (so_some (se_var 10))) (se_slice (se_var 8) (so_some (se_op os_add noX_add (se_var 10) se_int)) so_none)) (sa_cons (se_op os_add noX_add (se_op os_add noX_add (se_slice (se_var 8) so_none (so_some (se_var 10))) (SimL.val (sl_lst (sa_cons (se_var 12) sa_nil)))) (se_slice (se_var 8) (so_some (se_op os_add noX_add (se_var 10) se_int)) so_none)) (sa_cons (se_op os_add noX_add (se_var 8) (se_var 8)) (sa_cons (SimL.val (sl_lst sa_nil)) sa_nil)))))))))
    (sb_cons (ss_set 14 nd rfl (by first | exact Or.inl rfl | exact Or.inr rfl) (se_ix hu1 (se_var 5) (se_un us_neg se_int)))
    (sb_cons (ss_set 15 nd rfl (by first | exact Or.inl rfl | exact Or.inr rfl) (SimL.loc (sl_lst (sa_cons (se_var 14) (sa_cons (se_or (se_call (O.o__law_joined) hk (pas_of (takes_of rfl rfl rfl rfl)) rfl T.m__law_joined T.F__law_joined.kp T.b__law_joined (sa_cons (se_op os_add noX_add (se_var 14) (se_call (O.o__law_clause) hk (pas_of (takes_of rfl rfl rfl rfl)) rfl T.m__law_clause T.F__law_clause.kp T.b__law_clause (sa_cons (se_var 1) (sa_cons (se_var 2) (sa_cons se_int sa_nil))))) sa_nil)) (se_one (se_var 14))) (sa_cons (se_slice (se_var 14) (so_some se_int) so_none) (sa_cons (se_slice (se_var 14) so_none (so_some (se_un us_neg se_int))) (sa_cons (se_tup sa_nil) sa_nil))))))))
    (sb_cons (ss_expr (se_bm PySem.F.plainAttrs_list PySem.F.slot_list_append PySem.F.type_list_append ms_append (se_var 15) (sa_cons (se_callTy cs_tuple rfl T.z_tuple (by decide +kernel) (sa_cons (SimL.val (sl_comp rfl nd (si_tup (se_var 14)) (blkOk_by (own := [("_law_name", 23), ("_law_yes", 24)]) (N := n_law) (sc := defScope s_law) (by decide +kernel)) (fun _ _ _ _ _ => (sg_tup rfl (sg_cons (sg_name 23 nd rfl (by first | exact Or.inl rfl | exact Or.inr rfl)) (sg_cons (sg_name 24 nd rfl (by first | exact Or.inl rfl | exact Or.inr rfl)) sg_nil)))) (fun _ _ _ _ _ => ts_nil) (fun _ _ _ _ _ => (se_tup (sa_cons (se_var 23) (sa_cons (se_not (se_var 24)) sa_nil)))))) sa_nil)) sa_nil)))
    (sb_one (ss_ice 15 (ss_for (passes_of rfl) rfl (si_list (se_var 13)) (sg_name 16 nd rfl (by first | exact Or.inl rfl | exact Or.inr rfl)) (sb_one (ss_for (passes_of rfl) rfl (si_list (se_var 15)) (sg_name 17 nd rfl (by first | exact Or.inl rfl | exact Or.inr rfl)) (sb_cons (ss_set 19 nd rfl (by first | exact Or.inl rfl | exact Or.inr rfl) (se_cmp (os_eq hu64) noX_eq (se_op os_add noX_add (SimL.val (sl_comp rfl nd (si_list (se_var 7)) (blkOk_by (own := [("_law_clause_here", 25)]) (N := n_law) (sc := defScope s_law) (by decide +kernel)) (fun _ _ _ _ _ => (sg_name 25 nd rfl (by first | exact Or.inl rfl | exact Or.inr rfl))) (fun _ _ _ _ _ => (ts_one (st_cmp (os_nin hu66) noX_nin (se_var 25) (se_var 16) (by rfl)))) (fun _ _ _ _ _ => (se_var 25)))) (SimL.val (sl_comp rfl nd (si_tup (se_var 14)) (blkOk_by (own := [("_law_one", 26)]) (N := n_law) (sc := defScope s_law) (by decide +kernel)) (fun _ _ _ _ _ => (sg_name 26 nd rfl (by first | exact Or.inl rfl | exact Or.inr rfl))) (fun _ _ _ _ _ => (ts_one (st_cmp (os_ninA hu66) noX_ninA (se_var 26) (se_var 17) (by rfl)))) (fun _ _ _ _ _ => (se_var 26))))) (SimL.val (sl_lst sa_nil)) (nomark _)))
    (sb_cons (ss_set 20 nd rfl (by first | exact Or.inl rfl | exact Or.inr rfl) (SimL.val (sl_callTy cl_list rfl T.z_list (by decide +kernel) (sa_cons (se_var 16) sa_nil))))
    (sb_cons (ss_set 21 nd rfl (by first | exact Or.inl rfl | exact Or.inr rfl) (se_call (O.o_comes_to) hk (pas_of (takes_of rfl rfl rfl rfl)) rfl T.m_comes_to T.F_comes_to.kp T.b_comes_to (sa_cons (se_var 6) (sa_cons (se_var 16) (sa_cons (se_var 17) sa_nil)))))
    (sb_one (ss_if (SimW.t (sw_or (st_not (st_val (se_callB cs_isi rfl T.z_isinstance (by decide +kernel) (sa_cons (se_var 21) (sa_cons (se_ty "bool" rfl T.z_bool (by decide +kernel)) sa_nil))))) (sw_or (st_cmp (os_ne hu64) noX_ne (se_var 21) (se_var 19) (nomark _)) (sw_or1 (st_cmp (os_ne hu64) noX_ne (se_var 16) (se_var 20) (nomark _)))))) (sb_one (ss_ret se_bl)) sb_nil)))))))))))))))))))))))))
    (sb_one (ss_ret se_bl)))))
set_option maxHeartbeats 4000000 in
theorem sim_Chain___init__ {k : Nat} (T : Txt w K mg) (O : Oks P base T k) (cdv : Value) (A : Around) (outer : List Env) (s : Shared) (H : Hp) (E : XK) (hr : Room (2 * k + 3) (A.deeper (PyProof.Rows.envOfC "Chain.__init__" (defScope s_Chain___init__) s.heap.objs.size T.a_Chain___init__ cdv))) :
    SimB (cxOf (L2.CX P w) P w K mg base n_Chain___init__ "Chain.__init__" (defScope s_Chain___init__) T.a_Chain___init__ cdv A outer s H E) (fun cls d _ H2 => E cls d H2) (defBody s_Chain___init__) (b_Chain___init__ (call k)) := by
  have nd := sc_Chain___init__.nd
  have hk : Room (2 * k + 2) (A.deeper (PyProof.Rows.envOfC "Chain.__init__" (defScope s_Chain___init__) s.heap.objs.size T.a_Chain___init__ cdv)) := hr.mono (by omega)
  have hu66 := hr.un
  have hu64 : (A.deeper (PyProof.Rows.envOfC "Chain.__init__" (defScope s_Chain___init__) s.heap.objs.size T.a_Chain___init__ cdv)).units + 64 < cLine := by omega
  have hu1 : (A.deeper (PyProof.Rows.envOfC "Chain.__init__" (defScope s_Chain___init__) s.heap.objs.size T.a_Chain___init__ cdv)).units + 1 < cLine := by omega
  have hu67 : (A.deeper (PyProof.Rows.envOfC "Chain.__init__" (defScope s_Chain___init__) s.heap.objs.size T.a_Chain___init__ cdv)).units + 67 < cLine := by omega
  replace hu66 : (A.deeper (PyProof.Rows.envOfC "Chain.__init__" (defScope s_Chain___init__) s.heap.objs.size T.a_Chain___init__ cdv)).units + 66 < cLine := by omega
  exact (sb_cons (ss_putF T.mc_Chain T.cl_Chain T.na_Chain_reached (se_var 0) (se_call (O.o_clauses_of_steps) hk (pas_of (takes_of rfl rfl rfl rfl)) rfl T.m_clauses_of_steps T.F_clauses_of_steps.kp T.b_clauses_of_steps (sa_cons (se_var 1) sa_nil)))
    (sb_one (ss_putF T.mc_Chain T.cl_Chain T.na_Chain_rows (se_var 0) (SimL.val (sl_callTy cl_list rfl T.z_list (by decide +kernel) (sa_cons (se_var 1) sa_nil))))))
set_option maxHeartbeats 4000000 in
theorem sim_Chain_last {k : Nat} (T : Txt w K mg) (O : Oks P base T k) (cdv : Value) (A : Around) (outer : List Env) (s : Shared) (H : Hp) (E : XK) (hr : Room (2 * k + 3) (A.deeper (PyProof.Rows.envOfC "Chain.last" (defScope s_Chain_last) s.heap.objs.size T.a_Chain_last cdv))) :
    SimB (cxOf (L2.CX P w) P w K mg base n_Chain_last "Chain.last" (defScope s_Chain_last) T.a_Chain_last cdv A outer s H E) (fun cls d _ H2 => E cls d H2) (defBody s_Chain_last) (b_Chain_last (call k)) := by
  have nd := sc_Chain_last.nd
  have hk : Room (2 * k + 2) (A.deeper (PyProof.Rows.envOfC "Chain.last" (defScope s_Chain_last) s.heap.objs.size T.a_Chain_last cdv)) := hr.mono (by omega)
  have hu66 := hr.un
  have hu64 : (A.deeper (PyProof.Rows.envOfC "Chain.last" (defScope s_Chain_last) s.heap.objs.size T.a_Chain_last cdv)).units + 64 < cLine := by omega
  have hu1 : (A.deeper (PyProof.Rows.envOfC "Chain.last" (defScope s_Chain_last) s.heap.objs.size T.a_Chain_last cdv)).units + 1 < cLine := by omega
  have hu67 : (A.deeper (PyProof.Rows.envOfC "Chain.last" (defScope s_Chain_last) s.heap.objs.size T.a_Chain_last cdv)).units + 67 < cLine := by omega
  replace hu66 : (A.deeper (PyProof.Rows.envOfC "Chain.last" (defScope s_Chain_last) s.heap.objs.size T.a_Chain_last cdv)).units + 66 < cLine := by omega
  exact (sb_one (ss_ret (se_ix hu1 (se_get T.mc_Chain T.cl_Chain T.na_Chain_reached (se_var 0)) (se_un us_neg se_int))))
set_option maxHeartbeats 4000000 in
theorem sim_Chain_givens {k : Nat} (T : Txt w K mg) (O : Oks P base T k) (cdv : Value) (A : Around) (outer : List Env) (s : Shared) (H : Hp) (E : XK) (hr : Room (2 * k + 3) (A.deeper (PyProof.Rows.envOfC "Chain.givens" (defScope s_Chain_givens) s.heap.objs.size T.a_Chain_givens cdv))) :
    SimB (cxOf (L2.CX P w) P w K mg base n_Chain_givens "Chain.givens" (defScope s_Chain_givens) T.a_Chain_givens cdv A outer s H E) (fun cls d _ H2 => E cls d H2) (defBody s_Chain_givens) (b_Chain_givens (call k)) := by
  have nd := sc_Chain_givens.nd
  have hk : Room (2 * k + 2) (A.deeper (PyProof.Rows.envOfC "Chain.givens" (defScope s_Chain_givens) s.heap.objs.size T.a_Chain_givens cdv)) := hr.mono (by omega)
  have hu66 := hr.un
  have hu64 : (A.deeper (PyProof.Rows.envOfC "Chain.givens" (defScope s_Chain_givens) s.heap.objs.size T.a_Chain_givens cdv)).units + 64 < cLine := by omega
  have hu1 : (A.deeper (PyProof.Rows.envOfC "Chain.givens" (defScope s_Chain_givens) s.heap.objs.size T.a_Chain_givens cdv)).units + 1 < cLine := by omega
  have hu67 : (A.deeper (PyProof.Rows.envOfC "Chain.givens" (defScope s_Chain_givens) s.heap.objs.size T.a_Chain_givens cdv)).units + 67 < cLine := by omega
  replace hu66 : (A.deeper (PyProof.Rows.envOfC "Chain.givens" (defScope s_Chain_givens) s.heap.objs.size T.a_Chain_givens cdv)).units + 66 < cLine := by omega
  exact (sb_one (ss_ret (SimL.val (sl_sortSetA rfl hu64 rfl T.z_sorted rfl T.z_set (sa_cons (SimL.val (sl_comp rfl nd (si_list (se_get T.mc_Chain T.cl_Chain T.na_Chain_rows (se_var 0))) (blkOk_by (own := [("step", 1)]) (N := n_Chain_givens) (sc := defScope s_Chain_givens) (by decide +kernel)) (fun _ _ _ _ _ => (sg_name 1 nd rfl (by first | exact Or.inl rfl | exact Or.inr rfl))) (fun _ _ _ _ _ => (ts_one (st_cmp (os_eq hu64) noX_eq (se_ix hu1 (se_var 1) se_int) se_str (nomark _)))) (fun _ _ _ _ _ => (se_ix hu1 (se_var 1) se_int)))) sa_nil)))))
theorem oks (T : Txt w K mg) : ∀ k, Oks P base T k
  | 0 => ⟨fn_bad (fun _ _ => rfl) _ _, fn_bad (fun _ _ => rfl) _ _, fn_bad (fun _ _ => rfl) _ _, fn_bad (fun _ _ => rfl) _ _, fn_bad (fun _ _ => rfl) _ _, fn_bad (fun _ _ => rfl) _ _, fn_bad (fun _ _ => rfl) _ _, fn_bad (fun _ _ => rfl) _ _, fn_bad (fun _ _ => rfl) _ _, fn_bad (fun _ _ => rfl) _ _, fn_bad (fun _ _ => rfl) _ _, fn_bad (fun _ _ => rfl) _ _, fn_bad (fun _ _ => rfl) _ _, fn_bad (fun _ _ => rfl) _ _, fn_bad (fun _ _ => rfl) _ _, fn_bad (fun _ _ => rfl) _ _, fn_bad (fun _ _ => rfl) _ _, fn_bad (fun _ _ => rfl) _ _, fn_bad (fun _ _ => rfl) _ _, fn_bad (fun _ _ => rfl) _ _, fn_bad (fun _ _ => rfl) _ _, fn_bad (fun _ _ => rfl) _ _, fn_bad (fun _ _ => rfl) _ _, fn_bad (fun _ _ => rfl) _ _⟩
  | k + 1 => by
    have O := oks T k
    exact ⟨fn_sim T.F_is_word sc_is_word (fun _ _ _ => rfl) (sim_is_word T O),
      fn_sim T.F_is_name sc_is_name (fun _ _ _ => rfl) (sim_is_name T O),
      fn_sim T.F_is_literal sc_is_literal (fun _ _ _ => rfl) (sim_is_literal T O),
      fn_sim T.F_is_clause sc_is_clause (fun _ _ _ => rfl) (sim_is_clause T O),
      fn_sim T.F_clause_of sc_clause_of (fun _ _ _ => rfl) (sim_clause_of T O),
      fn_sim T.F_is_part sc_is_part (fun _ _ _ => rfl) (sim_is_part T O),
      fn_sim T.F_is_number sc_is_number (fun _ _ _ => rfl) (sim_is_number T O),
      fn_sim T.F_met_clause sc_met_clause (fun _ _ _ => rfl) (sim_met_clause T O),
      fn_sim T.F_clause_of_step sc_clause_of_step (fun _ _ _ => rfl) (sim_clause_of_step T O),
      fn_sim T.F_clauses_of_steps sc_clauses_of_steps (fun _ _ _ => rfl) (sim_clauses_of_steps T O),
      fn_sim T.F_comes_to sc_comes_to (fun _ _ _ => rfl) (sim_comes_to T O),
      fn_sim T.F__law_tape sc_law_tape (fun _ _ _ => rfl) (sim_law_tape T O),
      fn_sim T.F__law_draw sc_law_draw (fun _ _ _ => rfl) (sim_law_draw T O),
      fn_sim T.F__law_words sc_law_words (fun _ _ _ => rfl) (sim_law_words T O),
      fn_sim T.F__law_clause sc_law_clause (fun _ _ _ => rfl) (sim_law_clause T O),
      fn_sim T.F__law_joined sc_law_joined (fun _ _ _ => rfl) (sim_law_joined T O),
      fn_sim T.F__law_fresh sc_law_fresh (fun _ _ _ => rfl) (sim_law_fresh T O),
      fn_sim T.F__law_grown sc_law_grown (fun _ _ _ => rfl) (sim_law_grown T O),
      fn_sim T.F__law_chain sc_law_chain (fun _ _ _ => rfl) (sim_law_chain T O),
      fn_sim T.F__law_padded sc_law_padded (fun _ _ _ => rfl) (sim_law_padded T O),
      fn_sim T.F_law sc_law (fun _ _ _ => rfl) (sim_law T O),
      fn_sim T.F_Chain___init__ sc_Chain___init__ (fun _ _ _ => rfl) (sim_Chain___init__ T O),
      fn_sim T.F_Chain_last sc_Chain_last (fun _ _ _ => rfl) (sim_Chain_last T O),
      fn_sim T.F_Chain_givens sc_Chain_givens (fun _ _ _ => rfl) (sim_Chain_givens T O)⟩
end

end Law

set_option Elab.async false
set_option linter.all false
set_option maxRecDepth 100000
namespace DL
open PySem PySem.Spec L2

/-! ### it goes well, and Q holds behind -/
structure Y {α : Type} (r : R α) (Q : α → Sto → Prop) : Prop where
  out : Pst r Q (fun _ _ => False)
theorem Y.ok {α : Type} {r : R α} {Q : α → Sto → Prop} (h : Y r Q) : ∃ a S, r = .ok a S ∧ Q a S := by
  cases r with
  | ok a S => exact ⟨a, S, rfl, h.out⟩
  | exc x S => exact h.out.elim
  | bad => exact h.out.elim
theorem Y.of {α : Type} {r : R α} {Q : α → Sto → Prop} {a : α} {S : Sto} (e : r = .ok a S) (h : Q a S) : Y r Q := by rw [e]; exact ⟨h⟩
theorem Y.mono {α : Type} {r : R α} {P Q : α → Sto → Prop} (h : Y r P) (q : ∀ a S, P a S → Q a S) : Y r Q := ⟨Pst.mono h.out q fun _ _ z => z⟩
theorem y_ok {α : Type} {a : α} {S : Sto} {Q : α → Sto → Prop} (h : Q a S) : Y (.ok a S) Q := ⟨h⟩
theorem Y.bad {α : Type} {Q : α → Sto → Prop} (h : Y (.bad : R α) Q) : False := h.out
theorem y_bind {α β : Type} {r : R α} {k : α → Sto → R β} {Q : β → Sto → Prop} (h : Y r fun a S => Y (k a S) Q) : Y (r.bind k) Q := by
  obtain ⟨a, S, rfl, h1⟩ := h.ok
  exact h1
theorem y_guard {α : Type} {c : Bool} {r : R α} {Q : α → Sto → Prop} (hc : c = true) (h : Y r Q) : Y (guard c r) Q := by rw [hc]; exact h
section
variable {d : En} {S : Sto} {Q : U → Sto → Prop} {QB : Bool → Sto → Prop} {QA : List U → Sto → Prop} {fa fb fc f : FE} {ta tb : FT} {u : U} {i : Nat}
theorem y_C (h : Q u S) : Y (fC u d S) Q := ⟨h⟩
theorem y_var (e : d[i]? = some (some u)) (h : Q u S) : Y (fVar i d S) Q := by unfold fVar; rw [e]; exact ⟨h⟩
theorem y_f2 {g : U → U → Sto → R U} (h : Y (fa d S) fun x S1 => Y (fb d S1) fun y S2 => Y (g x y S2) Q) : Y (f2 g fa fb d S) Q := y_bind (h.mono fun x S1 h1 => y_bind h1)
theorem y_f1 {g : U → Sto → R U} (h : Y (fa d S) fun x S1 => Y (g x S1) Q) : Y (f1 g fa d S) Q := y_bind h
def unB (u : U) (S : Sto) : R Bool := match u with
  | .bl b => .ok b S
  | _ => .bad
theorem y_asB {r : R U} (h : Y r fun u S1 => Y (unB u S1) QB) : Y (asB r) QB := y_bind h
theorem y_unB {b : Bool} (h : QB b S) : Y (unB (.bl b) S) QB := ⟨h⟩
theorem y_B (h : Y (f d S) fun u S1 => Y (unB u S1) QB) : Y (fB f d S) QB := y_asB h
theorem y_ch {g g' : U → U → Sto → R U} (h : Y (fa d S) fun x S1 => Y (fb d S1) fun y S2 => Y (g x y S2) fun z S3 => Y (unB z S3) fun b S4 => if b = true then Y (fc d S4) fun t S5 => Y (g' y t S5) Q else Q (.bl false) S4) : Y (fCh g g' fa fb fc d S) Q := by
  refine y_bind (h.mono fun x S1 h1 => y_bind (h1.mono fun y S2 h2 => y_bind (h2.mono fun z S3 h3 => ?_)))
  cases z with
  | bl b =>
    cases b with
    | true => exact y_bind (show Y (fc d S3) _ from h3.out)
    | false => exact ⟨h3.out⟩
  | _ => exact h3.out.elim
theorem y_tru (h : Y (f d S) fun u S1 => Y (oB (truU u S1) S1) QB) : Y (fTru f d S) QB := y_bind h
theorem y_oB {o : Option Bool} {b : Bool} (e : o = some b) (h : QB b S) : Y (oB o S) QB := by rw [e]; exact ⟨h⟩
theorem y_tbl {b : Bool} (h : QB b S) : Y (oB (truU (.bl b) S) S) QB := ⟨h⟩
theorem y_and (h : Y (ta d S) fun b S1 => if b = true then Y (tb d S1) QB else QB false S1) : Y (fAnd ta tb d S) QB := y_bind (h.mono fun b S1 h1 => by cases b <;> first | exact h1 | exact ⟨h1⟩)
theorem y_or (h : Y (ta d S) fun b S1 => if b = true then QB true S1 else Y (tb d S1) QB) : Y (fOr ta tb d S) QB := y_bind (h.mono fun b S1 h1 => by cases b <;> first | exact h1 | exact ⟨h1⟩)
theorem y_not (h : Y (ta d S) fun b S1 => QB (!b) S1) : Y (fNot ta d S) QB := y_bind (h.mono fun b S1 h1 => ⟨h1⟩)
theorem y_andV (h : Y (fa d S) fun u S1 => Y (oB (truU u S1) S1) fun b S2 => if b = true then Y (fb d S2) Q else Q u S2) : Y (fAndV fa fb d S) Q := y_bind (h.mono fun u S1 h1 => by
  cases e : truU u S1 with
  | none => rw [e] at h1; exact h1.out.elim
  | some b => rw [e] at h1; cases b <;> first | exact h1.out | exact ⟨h1.out⟩)
theorem y_orV (h : Y (fa d S) fun u S1 => Y (oB (truU u S1) S1) fun b S2 => if b = true then Q u S2 else Y (fb d S2) Q) : Y (fOrV fa fb d S) Q := y_bind (h.mono fun u S1 h1 => by
  cases e : truU u S1 with
  | none => rw [e] at h1; exact h1.out.elim
  | some b => rw [e] at h1; cases b <;> first | exact h1.out | exact ⟨h1.out⟩)
theorem y_notV (h : Y (fa d S) fun u S1 => Y (oB (truU u S1) S1) fun b S2 => Q (.bl (!b)) S2) : Y (fNotV fa d S) Q := y_bind (h.mono fun u S1 h1 => by
  cases e : truU u S1 with
  | none => rw [e] at h1; exact h1.out.elim
  | some b => rw [e] at h1; exact ⟨h1.out⟩)
theorem y_if {α : Type} {Q : α → Sto → Prop} {x y : En → Sto → R α} (h : Y (ta d S) fun b S1 => if b = true then Y (x d S1) Q else Y (y d S1) Q) : Y (fIf ta x y d S) Q := y_bind (h.mono fun b S1 h1 => by cases b <;> exact h1)
theorem y_nil (h : QA [] S) : Y (aNil d S) QA := ⟨h⟩
theorem y_cons {g : FA} (h : Y (f d S) fun u S1 => Y (g d S1) fun us S2 => QA (u :: us) S2) : Y (aCons f g d S) QA := y_bind (h.mono fun u S1 h1 => y_bind (h1.mono fun us S2 h2 => ⟨h2⟩))
theorem y_tup {g : FA} (h : Y (g d S) fun us S1 => us.length ≤ sizeLine ∧ Q (.tup us) S1) : Y (fTup g d S) Q := y_bind (h.mono fun us S1 h1 => by rw [if_pos h1.1]; exact ⟨h1.2⟩)
theorem y_lst {g : FA} (h : Y (g d S) fun us S1 => us.length ≤ sizeLine ∧ QA us S1) : Y (aLst g d S) QA := y_bind (h.mono fun us S1 h1 => by rw [if_pos h1.1]; exact ⟨h1.2⟩)
theorem y_val {g : FA} (h : Y (g d S) fun us S1 => Q (.lst us) S1) : Y (fVal g d S) Q := y_bind (h.mono fun _ _ h1 => ⟨h1⟩)
theorem y_loc {g : FA} (h : Y (g d S) fun us S1 => Q (.loc S1.length) (S1 ++ [.lst us])) : Y (fLoc g d S) Q := y_bind (h.mono fun _ _ h1 => ⟨h1⟩)
theorem y_dval {g : FD} (h : Y (g d S) fun p S1 => Q (.dic p.1 p.2) S1) : Y (fDval g d S) Q := y_bind (h.mono fun _ _ h1 => ⟨h1⟩)
theorem y_dloc {g : FD} (h : Y (g d S) fun p S1 => Q (.loc S1.length) (S1 ++ [.dic p.1 p.2])) : Y (fDloc g d S) Q := y_bind (h.mono fun _ _ h1 => ⟨h1⟩)
theorem y_ice (h : Y (f d S) fun u S1 => ∃ n us, u = .loc n ∧ S1[n]? = some (.lst us) ∧ Q (.lst us) (S1.set n .dead)) : Y (fIce f d S) Q := y_bind (h.mono fun u S1 ⟨n, us, e, e2, h1⟩ => by
  subst e
  show Y (match S1[n]? with
    | some (.lst us) => .ok (.lst us) (S1.set n .dead)
    | some (.dic ks us) => .ok (.dic ks us) (S1.set n .dead)
    | _ => .bad) Q
  rw [e2]
  exact ⟨h1⟩)
theorem y_oNone {QO : Option Int → Sto → Prop} (h : QO none S) : Y (oNone d S) QO := ⟨h⟩
theorem y_oSome {QO : Option Int → Sto → Prop} (h : Y (f d S) fun u S1 => ∃ i, u = .int i ∧ QO (some i) S1) : Y (oSome f d S) QO := y_bind (h.mono fun u S1 ⟨i, e, h1⟩ => by subst e; exact ⟨h1⟩)
theorem y_sl {l h' : FO} (h : Y (f d S) fun u S1 => Y (l d S1) fun lo S2 => Y (h' d S2) fun hi S3 => Y (oU (slB u lo hi S3) S3) Q) : Y (fSl f l h' d S) Q := y_bind (h.mono fun u S1 h1 => y_bind (h1.mono fun lo S2 h2 => y_bind h2))
theorem y_oU {o : Option U} (e : o = some u) (h : Q u S) : Y (oU o S) Q := by rw [e]; exact ⟨h⟩
theorem y_A {α : Type} {g : List U → Sto → R α} {fa : FA} {Q : α → Sto → Prop} (h : Y (fa d S) fun us S1 => Y (g us S1) Q) : Y (fA g fa d S) Q := y_bind h
theorem y_call {n : Nat} {g : List U → Sto → R U} {fa : FA} (h : Y (fa d S) fun us S1 => (us.length == n) = true ∧ Y (g us S1) Q) : Y (fCall n g fa d S) Q := y_bind (h.mono fun us S1 h1 => y_guard h1.1 h1.2)
theorem y_M {T : String} {g : U → List U → Sto → R U} {fo : FE} {fa : FA} (h : Y (fo d S) fun u S1 => tyU T u S1 = true ∧ Y (fa d S1) fun us S2 => Y (g u us S2) Q) : Y (fM T g fo fa d S) Q := y_bind (h.mono fun u S1 h1 => y_guard h1.1 (y_bind h1.2))
theorem y_wget {tab : List (Str × U)} (h : Y (f d S) fun u S1 => ∃ z, u = .str z ∧ Q ((lookT tab z).getD .non) S1) : Y (fWget tab f d S) Q := y_bind (h.mono fun u S1 ⟨z, e, h1⟩ => by subst e; exact ⟨h1⟩)
theorem y_over {p : U → Option (List U)} (h : Y (f d S) fun u S1 => ∃ us, p u = some us ∧ QA us S1) : Y (aOver p f d S) QA := y_bind (h.mono fun u S1 ⟨us, e, h1⟩ => by
  show Y (match p u with
    | some us => .ok us S1
    | none => .bad) QA
  rw [e]
  exact ⟨h1⟩)
theorem y_rng1 {g : FA} (h : Y (g d S) fun us S1 => ∃ j, us = [.int j] ∧ -(2 ^ 62) ≤ j ∧ j < 2 ^ 62 ∧ QA (rngU 0 1 j.toNat) S1) : Y (aRng1 g d S) QA := y_bind (h.mono fun us S1 ⟨j, e, h1, h2, h3⟩ => by
  subst e
  exact y_guard (by rw [decide_eq_true h1, decide_eq_true h2]; rfl) ⟨h3⟩)

/-! ### operators of known kinds -/
theorem y_addI {i j : Int} (h : Q (.int (i + j)) S) : Y (addU (.int i) (.int j) S) Q := ⟨h⟩
theorem y_addS {x y : Str} (hl : x.length + y.length ≤ sizeLine) (h : Q (.str (x ++ y)) S) : Y (addU (.str x) (.str y) S) Q := y_guard (decide_eq_true hl) ⟨h⟩
theorem y_addT {x y : List U} (hl : x.length + y.length ≤ sizeLine) (h : Q (.tup (x ++ y)) S) : Y (addU (.tup x) (.tup y) S) Q := y_guard (decide_eq_true hl) ⟨h⟩
theorem y_addL {x y : List U} (hl : x.length + y.length ≤ sizeLine) (h : Q (.lst (x ++ y)) S) : Y (addU (.lst x) (.lst y) S) Q := y_guard (decide_eq_true hl) ⟨h⟩
theorem y_subI {i j : Int} (h : Q (.int (i - j)) S) : Y (subU (.int i) (.int j) S) Q := ⟨h⟩
theorem y_mulI {i j : Int} (hm : mulOk i j = true) (h : Q (.int (i * j)) S) : Y (mulU (.int i) (.int j) S) Q := y_guard hm ⟨h⟩
theorem y_mulL {x : List U} {k : Int} (h1 : -(2 ^ 63) ≤ k) (h2 : k < 2 ^ 63) (h3 : x.length * k.toNat ≤ sizeLine) (h : Q (.lst (List.replicate k.toNat x).flatten) S) : Y (mulU (.lst x) (.int k) S) Q := y_guard (by rw [decide_eq_true h1, decide_eq_true h2, decide_eq_true h3]; rfl) ⟨h⟩
theorem y_fdivI {i j : Int} (h1 : 0 < j) (h2 : j.natAbs.log2 < 9000) (h : Q (.int (i / j)) S) : Y (fdivU (.int i) (.int j) S) Q := y_guard (by simp [h1, h2]) ⟨h⟩
theorem y_modI {i j : Int} (h1 : 0 < j) (h : Q (.int (i % j)) S) : Y (modU (.int i) (.int j) S) Q := y_guard (decide_eq_true h1) ⟨h⟩
theorem y_powI {i j : Int} (h1 : 0 ≤ j) (h2 : j ≤ 1000000) (h3 : i.natAbs < 2 ^ 64) (h : Q (.int (i ^ j.toNat)) S) : Y (powU (.int i) (.int j) S) Q := y_guard (by simp [h1, h2, h3]) ⟨h⟩
theorem y_ltI {i j : Int} (h : Q (.bl (decide (i < j))) S) : Y (ltU (.int i) (.int j) S) Q := ⟨h⟩
theorem y_leI {i j : Int} (h : Q (.bl (decide (i ≤ j))) S) : Y (leU (.int i) (.int j) S) Q := ⟨h⟩
theorem y_gtI {i j : Int} (h : Q (.bl (decide (j < i))) S) : Y (gtU (.int i) (.int j) S) Q := ⟨h⟩
theorem y_geI {i j : Int} (h : Q (.bl (decide (j ≤ i))) S) : Y (geU (.int i) (.int j) S) Q := ⟨h⟩
theorem y_isN {x : U} (h : Q (.bl (isNon x)) S) : Y (isU x .non S) Q := ⟨h⟩
theorem y_isnN {x : U} (h : Q (.bl (!isNon x)) S) : Y (isnU x .non S) Q := ⟨h⟩
theorem y_eqF {x y : U} (hs : scalU x y = true) (h : Q (.bl (eqF x y)) S) : Y (eqU x y S) Q := by
  unfold eqU eqOk; rw [hs]; exact ⟨h⟩
theorem y_neF {x y : U} (hs : scalU x y = true) (h : Q (.bl (!eqF x y)) S) : Y (neU x y S) Q := by
  unfold neU eqOk; rw [hs]; exact ⟨h⟩
theorem y_eqI {i j : Int} (h : Q (.bl (decide (i = j))) S) : Y (eqU (.int i) (.int j) S) Q := y_eqF rfl h
theorem y_neI {i j : Int} (h : Q (.bl (!decide (i = j))) S) : Y (neU (.int i) (.int j) S) Q := y_neF rfl h
theorem y_eqB {i j : Bool} (h : Q (.bl (i == j)) S) : Y (eqU (.bl i) (.bl j) S) Q := y_eqF rfl h
theorem y_neB {i j : Bool} (h : Q (.bl (!(i == j))) S) : Y (neU (.bl i) (.bl j) S) Q := y_neF rfl h
theorem str_beq (x y : Str) : (x == y) = decide (x = y) := by
  by_cases q : x = y
  · subst q; simp
  · rw [decide_eq_false q]; simp [q]
theorem y_eqS {x y : Str} (h : Q (.bl (decide (x = y))) S) : Y (eqU (.str x) (.str y) S) Q := y_eqF rfl (show Q (.bl (x == y)) S by rw [str_beq]; exact h)
theorem y_neS {x y : Str} (h : Q (.bl (!decide (x = y))) S) : Y (neU (.str x) (.str y) S) Q := y_neF rfl (show Q (.bl (!(x == y))) S by rw [str_beq]; exact h)

/-! ### items -/
theorem atI_mem {α : Type} {xs : List α} {i : Int} (h0 : 0 ≤ i) (h1 : i < xs.length) : ∃ x, x ∈ xs ∧ xs[i.toNat]? = some x ∧ atI xs i = some x := by
  obtain ⟨n, rfl⟩ := Int.eq_ofNat_of_zero_le h0
  have hn : n < xs.length := by omega
  refine ⟨xs[n], List.getElem_mem hn, ?_, atI_nat (List.getElem?_eq_getElem hn)⟩
  show xs[n]? = _
  exact List.getElem?_eq_getElem hn
theorem y_ixL {us : List U} {i : Int} (h0 : 0 ≤ i) (h1 : i < us.length) (h : ∀ u, u ∈ us → us[i.toNat]? = some u → Q u S) : Y (ixU (.lst us) (.int i) S) Q := by
  obtain ⟨x, hx, e1, e2⟩ := atI_mem h0 h1
  exact y_oU (show ixB (.lst us) (.int i) S = some x from e2) (h x hx e1)
theorem y_ixT {us : List U} {i : Int} (h0 : 0 ≤ i) (h1 : i < us.length) (h : ∀ u, u ∈ us → us[i.toNat]? = some u → Q u S) : Y (ixU (.tup us) (.int i) S) Q := by
  obtain ⟨x, hx, e1, e2⟩ := atI_mem h0 h1
  exact y_oU (show ixB (.tup us) (.int i) S = some x from e2) (h x hx e1)
theorem y_ixS {z : Str} {i : Int} (hz : z.length ≤ sizeLine) (h0 : 0 ≤ i) (h1 : i < z.cps.toList.length) (h : ∀ c, c ∈ z.cps.toList → z.cps.toList[i.toNat]? = some c → Q (.str ⟨#[c]⟩) S) : Y (ixU (.str z) (.int i) S) Q := by
  obtain ⟨x, hx, e1, e2⟩ := atI_mem h0 h1
  refine y_oU (u := .str ⟨#[x]⟩) ?_ (h x hx e1)
  show (if z.length ≤ sizeLine then (atI z.cps.toList i).map fun c => U.str ⟨#[c]⟩ else none) = _
  rw [if_pos hz, e2]
  rfl
end

/-! ### statements -/
structure EU where
  nx : En → Sto → Prop
  rt : U → Sto → Prop
  bk : En → Sto → Prop := fun _ _ => False
  ct : En → Sto → Prop := fun _ _ => False
  ex : Exc → En → Sto → Prop := fun _ _ _ => False
def wS (r : R Fl) (D : EU) : Prop := match r with
  | .ok (.nx d) S => D.nx d S
  | .ok (.rt u) S => D.rt u S
  | .ok (.bk d) S => D.bk d S
  | .ok (.ct d) S => D.ct d S
  | .ok (.ex x d) S => D.ex x d S
  | _ => False
structure WS (r : R Fl) (D : EU) : Prop where
  out : wS r D
section
variable {d : En} {S : Sto} {D : EU} {f : FE} {g h : FS} {t : FT} {i : Nat}
theorem ws_toS {α : Type} {r : R α} {k : α → Sto → R Fl} (h : Y r fun a S1 => WS (k a S1) D) : WS (toS d r k) D := by
  obtain ⟨a, S, rfl, h1⟩ := h.ok
  exact h1
theorem w_nop (h : D.nx d S) : WS (fNop d S) D := ⟨h⟩
theorem w_expr (h : Y (f d S) fun _ S1 => D.nx d S1) : WS (fExpr f d S) D := ws_toS (h.mono fun _ _ h1 => ⟨h1⟩)
theorem w_ret (h : Y (f d S) fun u S1 => D.rt u S1) : WS (fRet f d S) D := ws_toS (h.mono fun _ _ h1 => ⟨h1⟩)
theorem w_retN (h : D.rt .non S) : WS (fRetN d S) D := ⟨h⟩
theorem w_brk (h : D.bk d S) : WS (fBrk d S) D := ⟨h⟩
theorem w_ct (h : D.ct d S) : WS (fCt d S) D := ⟨h⟩
theorem w_set (h : Y (f d S) fun u S1 => D.nx (d.set i (some u)) S1) : WS (fSet i f d S) D := ws_toS (h.mono fun _ _ h1 => ⟨h1⟩)
theorem w_asg {gt : U → En → Option En} (h : Y (f d S) fun u S1 => ∃ d', gt u d = some d' ∧ D.nx d' S1) : WS (fAsg gt f d S) D := ws_toS (h.mono fun u S1 ⟨d', e, h1⟩ => by
  show WS (match gt u d with
    | some d' => .ok (.nx d') S1
    | none => .bad) D
  rw [e]
  exact ⟨h1⟩)
theorem w_seq (h1 : WS (g d S) { D with nx := fun d1 S1 => WS (h d1 S1) D }) : WS (fSeq g h d S) D := by
  unfold fSeq
  cases e : g d S with
  | ok fl S1 =>
    rw [e] at h1
    cases fl <;> first | exact h1.out | exact ⟨h1.out⟩
  | exc x S => rw [e] at h1; exact h1.out.elim
  | bad => rw [e] at h1; exact h1.out.elim
theorem w_if (h1 : Y (t d S) fun b S1 => if b = true then WS (g d S1) D else WS (h d S1) D) : WS (fIfS t g h d S) D := ws_toS (h1.mono fun b S1 h2 => by cases b <;> exact h2)
theorem w_store {fe fo fi : FE} (h : Y (fe d S) fun v S1 => Y (fo d S1) fun o S2 => Y (fi d S2) fun i S3 => ∃ S4, stU o i v S3 = some S4 ∧ D.nx d S4) : WS (fStore fe fo fi d S) D :=
  ws_toS (h.mono fun v S1 h1 => ws_toS (h1.mono fun o S2 h2 => ws_toS (h2.mono fun i S3 ⟨S4, e, h3⟩ => by
    show WS (match stU o i v S3 with
      | some S4 => .ok (.nx d) S4
      | none => .bad) D
    rw [e]
    exact ⟨h3⟩)))
theorem WS.mono {r : R Fl} {D D' : EU} (h : WS r D) (h1 : ∀ d S, D.nx d S → D'.nx d S) (h2 : ∀ u S, D.rt u S → D'.rt u S) (h3 : ∀ d S, D.bk d S → D'.bk d S) (h4 : ∀ d S, D.ct d S → D'.ct d S) (h5 : ∀ x d S, D.ex x d S → D'.ex x d S) : WS r D' := by
  cases r with
  | ok fl S => cases fl with
    | nx d => exact ⟨h1 d S h.out⟩
    | rt u => exact ⟨h2 u S h.out⟩
    | bk d => exact ⟨h3 d S h.out⟩
    | ct d => exact ⟨h4 d S h.out⟩
    | ex x d => exact ⟨h5 x d S h.out⟩
  | exc x S => exact h.out.elim
  | bad => exact h.out.elim
/-- a for by an invariant over what is left -/
theorem w_loop {gt : U → En → Option En} {g : FS} {D : EU} (I : List U → En → Sto → Prop)
    (h : ∀ u us d S, I (u :: us) d S → ∃ d1, gt u d = some d1 ∧ WS (g d1 S) { D with nx := I us, ct := I us, bk := D.nx }) (h0 : ∀ d S, I [] d S → D.nx d S) : ∀ (us : List U) (d : En) (S : Sto), I us d S → WS (loopF gt g us d S) D
  | [], d, S, hi => ⟨h0 d S hi⟩
  | u :: us, d, S, hi => by
    obtain ⟨d1, e, hw⟩ := h u us d S hi
    unfold loopF
    rw [e]
    show WS (match g d1 S with
      | .ok (.nx d2) S1 => loopF gt g us d2 S1
      | .ok (.ct d2) S1 => loopF gt g us d2 S1
      | .ok (.bk d2) S1 => .ok (.nx d2) S1
      | r => r) D
    cases hg : g d1 S with
    | ok fl S1 =>
      rw [hg] at hw
      cases fl with
      | nx d2 => exact w_loop I h h0 us d2 S1 hw.out
      | ct d2 => exact w_loop I h h0 us d2 S1 hw.out
      | bk d2 => exact ⟨hw.out⟩
      | rt u => exact ⟨hw.out⟩
      | ex x d2 => exact ⟨hw.out⟩
    | exc x S => rw [hg] at hw; exact hw.out.elim
    | bad => rw [hg] at hw; exact hw.out.elim
theorem w_for {fi : FA} {gt : U → En → Option En} {g : FS} (h : Y (fi d S) fun us S1 => WS (loopF gt g us d S1) D) : WS (fFor fi gt g d S) D := ws_toS h
/-- a while by an invariant and a number that falls -/
theorem w_while {t : FT} {g : FS} {D : EU} (I : Nat → En → Sto → Prop)
    (h : ∀ m d S, I m d S → Y (t d S) fun b S1 => if b = true then WS (g d S1) { D with nx := fun d2 S2 => ∃ m', m' < m ∧ I m' d2 S2, ct := fun d2 S2 => ∃ m', m' < m ∧ I m' d2 S2, bk := D.nx } else D.nx d S1) :
    ∀ (n m : Nat) (d : En) (S : Sto), m < n → I m d S → WS (whileF t g n d S) D
  | 0, m, d, S, hl, _ => absurd hl (Nat.not_lt_zero _)
  | n + 1, m, d, S, hl, hi => by
    unfold whileF
    refine ws_toS ((h m d S hi).mono fun b S1 h1 => ?_)
    cases b with
    | false => exact ⟨h1⟩
    | true =>
      show WS (match g d S1 with
        | .ok (.nx d2) S2 => whileF t g n d2 S2
        | .ok (.ct d2) S2 => whileF t g n d2 S2
        | .ok (.bk d2) S2 => .ok (.nx d2) S2
        | r => r) D
      have h1 : WS (g d S1) { D with nx := fun d2 S2 => ∃ m', m' < m ∧ I m' d2 S2, ct := fun d2 S2 => ∃ m', m' < m ∧ I m' d2 S2, bk := D.nx } := h1
      cases hg : g d S1 with
      | ok fl S2 =>
        rw [hg] at h1
        cases fl with
        | nx d2 => obtain ⟨m', hm, h2⟩ := h1.out; exact w_while I h n m' d2 S2 (by omega) h2
        | ct d2 => obtain ⟨m', hm, h2⟩ := h1.out; exact w_while I h n m' d2 S2 (by omega) h2
        | bk d2 => exact ⟨h1.out⟩
        | rt u => exact ⟨h1.out⟩
        | ex x d2 => exact ⟨h1.out⟩
      | exc x S => rw [hg] at h1; exact h1.out.elim
      | bad => rw [hg] at h1; exact h1.out.elim
/-- a comprehension by an invariant over what is left and what is made -/
theorem y_comp {gt : U → En → Option En} {t : FT} {f : FE} {d : En} {Q : List U → Sto → Prop} (I : List U → List U → Sto → Prop)
    (h : ∀ u us acc S, I (u :: us) acc S → acc.length < sizeLine ∧ ∃ d1, gt u d = some d1 ∧ Y (t d1 S) fun b S1 => if b = true then Y (f d1 S1) fun y S2 => I us (acc ++ [y]) S2 else I us acc S1) (h0 : ∀ acc S, I [] acc S → Q acc S) :
    ∀ (us acc : List U) (S : Sto), I us acc S → Y (compF gt t f d us acc S) Q
  | [], acc, S, hi => ⟨h0 acc S hi⟩
  | u :: us, acc, S, hi => by
    obtain ⟨hl, d1, e, hy⟩ := h u us acc S hi
    unfold compF
    rw [e]
    obtain ⟨b, S1, e1, hy⟩ := hy.ok
    dsimp only
    rw [e1]
    cases b with
    | true =>
      obtain ⟨y, S2, e2, hy⟩ := Y.ok hy
      dsimp only
      rw [e2]
      exact y_guard (decide_eq_true hl) (y_comp I h h0 us _ S2 hy)
    | false => exact y_comp I h h0 us acc S1 hy
theorem y_aComp {fi : FA} {gt : U → En → Option En} {t : FT} {f : FE} {vs : List Nat} {Q : List U → Sto → Prop} (h : Y (fi d S) fun us S1 => Y (compF gt t f (wipeE d vs) us [] S1) Q) : Y (aComp fi gt t f vs d S) Q := y_bind h
/-- a def's body -/
theorem y_run {body : FS} {d : En} {S : Sto} {Q : U → Sto → Prop} (h : WS (body d S) { nx := fun _ S1 => Q .non S1, rt := Q }) : Y (runB body d S) Q := by
  unfold runB
  cases e : body d S with
  | ok fl S1 =>
    rw [e] at h
    cases fl with
    | nx d => exact ⟨h.out⟩
    | rt u => exact ⟨h.out⟩
    | bk d => exact h.out.elim
    | ct d => exact h.out.elim
    | ex x d => exact h.out.elim
  | exc x S => rw [e] at h; exact h.out.elim
  | bad => rw [e] at h; exact h.out.elim
theorem ite_b {b : Bool} {A B : Prop} (h1 : b = true → A) (h2 : b = false → B) : if b = true then A else B := by
  cases b with
  | true => exact h1 rfl
  | false => exact h2 rfl
end
end DL

set_option Elab.async false
set_option linter.all false
set_option maxRecDepth 100000
namespace DL
open PySem PySem.Spec L2
/-! ### the tape -/
def tapeO (cs : List Int) (sp lf : Int) : Ob := .dic [.inr "cells", .inr "spot", .inr "left"] [.lst (cs.map .int), .int sp, .int lf]
theorem ix_of {n : Nat} {S : Sto} {ks : List Key} {us : List U} {k : Str} {u : U} (h : S[n]? = some (.dic ks us)) (e : valU ks us (.inr k) = some u) : ixB (.loc n) (.str k) S = some u := by
  unfold ixB DL.listOf listM dictOf keyU
  simp only [h]
  exact e
theorem ix_left {n : Nat} {S : Sto} {cs : List Int} {sp lf : Int} (h : S[n]? = some (tapeO cs sp lf)) : ixB (.loc n) (.str "left") S = some (.int lf) := ix_of h rfl
theorem ix_spot {n : Nat} {S : Sto} {cs : List Int} {sp lf : Int} (h : S[n]? = some (tapeO cs sp lf)) : ixB (.loc n) (.str "spot") S = some (.int sp) := ix_of h rfl
theorem ix_cells {n : Nat} {S : Sto} {cs : List Int} {sp lf : Int} (h : S[n]? = some (tapeO cs sp lf)) : ixB (.loc n) (.str "cells") S = some (.lst (cs.map .int)) := ix_of h rfl
theorem st_of {n : Nat} {S : Sto} {ks : List Key} {us : List U} {k : Str} {v : U} {p : List Key × List U} (h : S[n]? = some (.dic ks us)) (hl : ks.length < sizeLine) (e : putU ks us (.inr k) v = p) : stU (.loc n) (.str k) v S = some (S.set n (.dic p.1 p.2)) := by
  unfold stU keyU
  simp only [h, e, if_pos hl]
theorem st_left {n : Nat} {S : Sto} {cs : List Int} {sp lf lf' : Int} (h : S[n]? = some (tapeO cs sp lf)) : stU (.loc n) (.str "left") (.int lf') S = some (S.set n (tapeO cs sp lf')) := st_of h (by decide) rfl
theorem st_spot {n : Nat} {S : Sto} {cs : List Int} {sp lf sp' : Int} (h : S[n]? = some (tapeO cs sp lf)) : stU (.loc n) (.str "spot") (.int sp') S = some (S.set n (tapeO cs sp' lf)) := st_of h (by decide) rfl
theorem y_ix {x y u : U} {S : Sto} {Q : U → Sto → Prop} (e : ixB x y S = some u) (h : Q u S) : Y (ixU x y S) Q := y_oU e h
/-- the tape at n: not read further than b -/
def Tape (n : Nat) (b : Int) (S : Sto) : Prop := ∃ cs sp lf, S[n]? = some (tapeO cs sp lf) ∧ cs.length ≤ 63 ∧ 0 ≤ sp ∧ sp ≤ b ∧ 0 ≤ lf
/-- all but those of ms stand, more may have come -/
def Fr (ms : List Nat) (S S' : Sto) : Prop := S.length ≤ S'.length ∧ ∀ m, m < S.length → m ∉ ms → S'[m]? = S[m]?
theorem Fr.refl (ms : List Nat) (S : Sto) : Fr ms S S := ⟨Nat.le_refl _, fun _ _ _ => rfl⟩
theorem Fr.trans {ms : List Nat} {S S1 S2 : Sto} (a : Fr ms S S1) (b : Fr ms S1 S2) : Fr ms S S2 := ⟨Nat.le_trans a.1 b.1, fun m h n => (b.2 m (Nat.lt_of_lt_of_le h a.1) n).trans (a.2 m h n)⟩
theorem Fr.more {ms ns : List Nat} {S S' : Sto} (a : Fr ms S S') (h : ∀ m ∈ ms, m ∈ ns) : Fr ns S S' := ⟨a.1, fun m hm hn => a.2 m hm fun q => hn (h m q)⟩
theorem Fr.set {n : Nat} {S : Sto} {o : Ob} {ms : List Nat} (h : n ∈ ms) : Fr ms S (S.set n o) := ⟨by simp, fun m _ hm => List.getElem?_set_ne fun e => hm (by rw [← e]; exact h)⟩
theorem Fr.push {S : Sto} {o : Ob} {ms : List Nat} : Fr ms S (S ++ [o]) := ⟨by simp, fun m hm _ => List.getElem?_append_left hm⟩
theorem Fr.get {ms : List Nat} {S S' : Sto} {m : Nat} {o : Ob} (a : Fr ms S S') (h : S[m]? = some o) (hm : m ∉ ms) : S'[m]? = some o := (a.2 m (List.getElem?_eq_some_iff.mp h).1 hm).trans h
theorem Tape.lt {n : Nat} {b : Int} {S : Sto} (t : Tape n b S) : n < S.length := by
  obtain ⟨_, _, _, h, _⟩ := t
  exact (List.getElem?_eq_some_iff.mp h).1
theorem Tape.mono {n : Nat} {b b' : Int} {S : Sto} (t : Tape n b S) (h : b ≤ b') : Tape n b' S := by
  obtain ⟨cs, sp, lf, h1, h2, h3, h4, h5⟩ := t
  exact ⟨cs, sp, lf, h1, h2, h3, by omega, h5⟩
theorem Tape.fr {n : Nat} {b : Int} {S S' : Sto} {ms : List Nat} (t : Tape n b S) (f : Fr ms S S') (h : n ∉ ms) : Tape n b S' := by
  obtain ⟨cs, sp, lf, h1, h2⟩ := t
  exact ⟨cs, sp, lf, f.get h1 h, h2⟩
/-- what a draw gives: below many, the tape turned on -/
def Drawn1 (n : Nat) (b many : Int) (S : Sto) (u : U) (S' : Sto) : Prop := ∃ r, u = .int r ∧ 0 ≤ r ∧ r < many ∧ Tape n b S' ∧ S'.length = S.length ∧ Fr [n] S S'
theorem mul_ok {i j : Int} {a b : Nat} (ha : i.natAbs < 2 ^ a) (hb : j.natAbs < 2 ^ b) (h : a + b ≤ 134217728) : mulOk i j = true := decide_eq_true (mulx_ok ha hb h)
theorem natAbs_lt {i : Int} {a : Nat} (h0 : 0 ≤ i) (h : i < 2 ^ a) : i.natAbs < 2 ^ a := by
  have : (i.natAbs : Int) < ((2 ^ a : Nat) : Int) := by
    rw [Int.natAbs_of_nonneg h0]
    have e : ((2 ^ a : Nat) : Int) = 2 ^ a := by simp
    rw [e]; exact h
  exact Int.ofNat_lt.mp this
end DL
namespace DL
theorem log_lt {m : Int} (h0 : 0 < m) (h1 : m < 2 ^ 200) : m.natAbs.log2 < 9000 := by
  have : m.natAbs < 2 ^ 200 := natAbs_lt (by omega) h1
  have := (Nat.log2_lt (by omega : m.natAbs ≠ 0)).mpr this
  omega
end DL
namespace DL
theorem y_orC {fa fb : FE} {d : En} {S : Sto} {Q : U → Sto → Prop} {cs : List Int} (hl : cs.length ≤ 63) (e : fa d S = .ok (.lst (cs.map .int)) S) (e2 : fb d S = .ok (.lst [.int 0]) S) (h : ∀ ds : List Int, 0 < ds.length → ds.length ≤ 63 → Q (.lst (ds.map .int)) S) : Y (fOrV fa fb d S) Q := by
  refine y_orV ?_
  rw [e]
  refine y_ok ?_
  cases cs with
  | nil => exact ⟨(show Y (fb d S) Q by rw [e2]; exact ⟨h [0] (by decide) (by decide)⟩)⟩
  | cons c cs => exact ⟨h (c :: cs) (by simp) hl⟩
theorem y_lenL {us : List U} {S : Sto} {Q : U → Sto → Prop} (h : Q (.int us.length) S) : Y (lenC [.lst us] S) Q := ⟨h⟩
theorem y_ixI {ds : List Int} {i : Int} {S : Sto} {Q : U → Sto → Prop} (h0 : 0 ≤ i) (h1 : i < ds.length) (h : ∀ c, Q (.int c) S) : Y (ixU (.lst (ds.map .int)) (.int i) S) Q := by
  refine y_ixL h0 (by rw [List.length_map]; exact h1) fun u hu _ => ?_
  obtain ⟨c, _, rfl⟩ := List.mem_map.mp hu
  exact h c
end DL
namespace DL
theorem w_ifP {t : FT} {g h : FS} {d : En} {S : Sto} {D : EU} (P : Bool → Prop) (h0 : Y (t d S) fun b S1 => S1 = S ∧ P b) (h1 : P true → WS (g d S) D) (h2 : P false → WS (h d S) D) : WS (fIfS t g h d S) D :=
  w_if (h0.mono fun b S1 ⟨e, p⟩ => by
    subst e
    cases b with
    | true => exact h1 p
    | false => exact h2 p)
theorem y_ifP {α : Type} {Q : α → Sto → Prop} {t : FT} {x y : En → Sto → R α} {d : En} {S : Sto} (P : Bool → Prop) (h0 : Y (t d S) fun b S1 => S1 = S ∧ P b) (h1 : P true → Y (x d S) Q) (h2 : P false → Y (y d S) Q) : Y (fIf t x y d S) Q :=
  y_if (h0.mono fun b S1 ⟨e, p⟩ => by
    subst e
    cases b with
    | true => exact h1 p
    | false => exact h2 p)
end DL

set_option Elab.async false
set_option linter.all false
set_option maxRecDepth 100000
namespace DL
open PySem PySem.Spec L2 TL
/-! ### texts -/
theorem len_cs (z : Str) : z.length = (tl z).length := by show z.cps.size = _; simp
theorem cs_take (z : Str) (k : Nat) : tl (cutS z none (some (k : Int))) = (tl z).take k := by
  show ((z.cps.toList.drop (HT.sIx z.length 0 none)).take (HT.sIx z.length z.length (some (k : Int)) - HT.sIx z.length 0 none)) = _
  rw [HT.sIx_none, HT.sIx_nat, List.drop_zero, Nat.sub_zero, len_cs]
  show List.take (min k (tl z).length) (tl z) = _
  rw [List.take_eq_take_iff]
  omega
theorem cs_join (ys : List Str) : tl (Txt.join "" ys) = (ys.map tl).flatten := by
  rw [join_eq, tl_join]
  show joinL [] _ = _
  generalize ys.map tl = zs
  induction zs with
  | nil => rfl
  | cons p r ih =>
    cases r with
    | nil => simp [joinL]
    | cons q r => show p ++ ([] ++ joinL [] (q :: r)) = _; rw [ih]; simp
/-- small letters alone -/
def Low (z : Str) : Prop := ∀ c ∈ tl z, 97 ≤ c ∧ c ≤ 122
theorem Low.app {x y : Str} (a : Low x) (b : Low y) : Low (x ++ y) := fun c h => by
  rw [tl_append] at h
  exact (List.mem_append.mp h).elim (a c) (b c)
theorem Low.take {x : Str} (a : Low x) (k : Nat) : Low (cutS x none (some (k : Int))) := fun c h => by
  rw [cs_take] at h
  exact a c (List.mem_of_mem_take h)
theorem Low.one {x : Str} {c : Nat} (a : Low x) (h : c ∈ x.cps.toList) : Low ⟨#[c]⟩ := fun c' h' => by
  have : c' = c := by simpa using h'
  subst this
  exact a _ h
theorem Low.join {ys : List Str} (h : ∀ y ∈ ys, Low y) : Low (Txt.join "" ys) := fun c hc => by
  rw [cs_join] at hc
  obtain ⟨l, hl, hc⟩ := List.mem_flatten.mp hc
  obtain ⟨y, hy, rfl⟩ := List.mem_map.mp hl
  exact h y hy c hc
theorem Low.ok {x : Str} (a : Low x) : PyData.strOk x = true := by
  unfold PyData.strOk
  rw [Array.all_eq_true']
  intro c hc
  have := a c (by simpa using hc)
  exact decide_eq_true (by omega)
theorem len_app (x y : Str) : (x ++ y).length = x.length + y.length := by rw [len_cs, len_cs, len_cs, tl_append, List.length_append]
theorem len_take (x : Str) (k : Nat) : (cutS x none (some (k : Int))).length = min k x.length := by rw [len_cs, len_cs, cs_take, List.length_take]
theorem len_one (c : Nat) : Str.length ⟨#[c]⟩ = 1 := rfl
theorem len_join {ys : List Str} (h : ∀ y ∈ ys, y.length = 1) : (Txt.join "" ys).length = ys.length := by
  rw [len_cs, cs_join, List.length_flatten, List.map_map]
  induction ys with
  | nil => rfl
  | cons y r ih =>
    rw [List.map_cons, List.sum_cons, ih fun z hz => h z (List.mem_cons_of_mem _ hz)]
    show (tl y).length + _ = _
    rw [← len_cs, h y List.mem_cons_self, List.length_cons]
    omega

/-! ### plain data, not deeper than n, not wider than c -/
def Pl (c : Nat) : Nat → U → Prop
  | _, .non => True
  | _, .bl _ => True
  | _, .int _ => True
  | _, .str z => PyData.strOk z = true ∧ z.length ≤ sizeLine
  | n + 1, .tup us => us.length ≤ c ∧ ∀ u ∈ us, Pl c n u
  | n + 1, .lst us => us.length ≤ c ∧ ∀ u ∈ us, Pl c n u
  | _, _ => False
theorem Pl.ups {c c' n m : Nat} (hc : c ≤ c') (h : n ≤ m) : ∀ {u : U}, Pl c n u → Pl c' m u := by
  induction n generalizing m with
  | zero =>
    intro u p
    cases u <;> first | trivial | exact p | exact p.elim | skip
    all_goals (unfold Pl at p ⊢; first | exact p | exact p.elim)
  | succ n ih =>
    intro u p
    obtain ⟨m, rfl⟩ : ∃ k, m = k + 1 := ⟨m - 1, by omega⟩
    cases u with
    | tup us => exact ⟨Nat.le_trans p.1 hc, fun u hu => ih (by omega) (p.2 u hu)⟩
    | lst us => exact ⟨Nat.le_trans p.1 hc, fun u hu => ih (by omega) (p.2 u hu)⟩
    | non => trivial
    | bl b => trivial
    | int i => trivial
    | str z => exact p
    | frz us => exact p.elim
    | dic a b => exact p.elim
    | loc n => exact p.elim
    | ty n => exact p.elim
    | exc a b c => exact p.elim
    | cl c => exact p.elim
theorem Pl.up {c n m : Nat} (h : n ≤ m) {u : U} (p : Pl c n u) : Pl c m u := Pl.ups (Nat.le_refl _) h p
def plB (c : Nat) : Nat → U → Bool
  | _, .non => true
  | _, .bl _ => true
  | _, .int _ => true
  | _, .str z => PyData.strOk z && decide (z.length ≤ sizeLine)
  | n + 1, .tup us => decide (us.length ≤ c) && us.all (plB c n)
  | n + 1, .lst us => decide (us.length ≤ c) && us.all (plB c n)
  | _, _ => false
theorem plB_ok {c : Nat} : ∀ {n : Nat} {u : U}, plB c n u = true → Pl c n u := by
  intro n
  induction n with
  | zero =>
    intro u h
    cases u with
    | str z => unfold plB at h; unfold Pl; rw [Bool.and_eq_true] at h; exact ⟨h.1, of_decide_eq_true h.2⟩
    | non => trivial
    | bl b => trivial
    | int i => trivial
    | _ => unfold plB at h; cases h
  | succ n ih =>
    intro u h
    cases u with
    | str z => unfold plB at h; unfold Pl; rw [Bool.and_eq_true] at h; exact ⟨h.1, of_decide_eq_true h.2⟩
    | tup us => unfold plB at h; rw [Bool.and_eq_true] at h; exact ⟨of_decide_eq_true h.1, fun u hu => ih (List.all_eq_true.mp h.2 u hu)⟩
    | lst us => unfold plB at h; rw [Bool.and_eq_true] at h; exact ⟨of_decide_eq_true h.1, fun u hu => ih (List.all_eq_true.mp h.2 u hu)⟩
    | non => trivial
    | bl b => trivial
    | int i => trivial
    | _ => unfold plB at h; cases h
theorem Pl.strs {c n : Nat} {z : Str} (h : PyData.strOk z = true ∧ z.length ≤ sizeLine) : Pl c n (.str z) := by cases n <;> (unfold Pl; exact h)
theorem Pl.dat : ∀ {c n : Nat} {u : U}, Pl c n u → ∃ d, toD u = some d ∧ d.canLay0 = true ∧ d.depth ≤ n := by
  intro c n
  induction n with
  | zero =>
    intro u p
    cases u with
    | non => exact ⟨_, rfl, rfl, Nat.le_refl _⟩
    | bl b => exact ⟨_, rfl, rfl, Nat.le_refl _⟩
    | int i => exact ⟨_, rfl, rfl, Nat.le_refl _⟩
    | str z => exact ⟨.str z, rfl, by unfold Pl at p; exact p.1, Nat.le_refl _⟩
    | _ => unfold Pl at p; exact p.elim
  | succ n ih =>
    have all : ∀ {us : List U}, (∀ u ∈ us, Pl c n u) → ∃ ds, toDs us = some ds ∧ PyData.canLayAll0 ds = true ∧ PyData.depthAll ds ≤ n := by
      intro us h
      induction us with
      | nil => exact ⟨[], rfl, rfl, Nat.zero_le _⟩
      | cons u r ih2 =>
        obtain ⟨d, e, a, b⟩ := ih (h u List.mem_cons_self)
        obtain ⟨ds, es, as, bs⟩ := ih2 fun v hv => h v (List.mem_cons_of_mem _ hv)
        refine ⟨d :: ds, by unfold toDs; rw [e, es], ?_, ?_⟩
        · unfold PyData.canLayAll0; rw [a, as]; rfl
        · unfold PyData.depthAll; omega
    intro u p
    cases u with
    | non => exact ⟨_, rfl, rfl, Nat.zero_le _⟩
    | bl b => exact ⟨_, rfl, rfl, Nat.zero_le _⟩
    | int i => exact ⟨_, rfl, rfl, Nat.zero_le _⟩
    | str z => exact ⟨.str z, rfl, p.1, Nat.zero_le _⟩
    | tup us =>
      obtain ⟨ds, e, a, b⟩ := all p.2
      exact ⟨.tuple ds, by unfold toD; rw [e]; rfl, by unfold PyData.canLay0; exact a, by unfold PyData.depth; omega⟩
    | lst us =>
      obtain ⟨ds, e, a, b⟩ := all p.2
      exact ⟨.list ds, by unfold toD; rw [e]; rfl, by unfold PyData.canLay0; exact a, by unfold PyData.depth; omega⟩
    | _ => unfold Pl at p; exact p.elim
theorem toDS_toD {u : U} {S : Sto} {d : PyData} (h : toD u = some d) : toDS u S = some d := by
  cases u <;> first | exact h | (unfold toD at h; cases h)
theorem Pl.shaped {c n : Nat} {u : U} (p : Pl c n u) (hn : n ≤ 64) (S : Sto) : ∃ d, toDS u S = some d ∧ SeqAt.shaped d = true := by
  obtain ⟨d, e, a, b⟩ := p.dat
  refine ⟨d, toDS_toD e, ?_⟩
  unfold SeqAt.shaped
  rw [a, decide_eq_true (by omega : d.depth ≤ 64)]
  rfl
/-- == () -/
theorem y_eqE {us : List U} {c n : Nat} {S : Sto} {Q : U → Sto → Prop} (p : Pl c n (.tup us)) (hn : n ≤ 64) (h : Q (.bl us.isEmpty) S) : Y (eqU (.tup us) (.tup []) S) Q := by
  obtain ⟨d, e, s⟩ := p.shaped hn S
  have e2 : toDS (.tup us) S = (toDs us).map .tuple := rfl
  unfold eqU eqOk
  show Y (match toDS (.tup us) S, toDS (.tup []) S with
    | some a, some b => guard (SeqAt.shaped a && SeqAt.shaped b) (.ok (.bl (PyData.eqv a b)) S)
    | _, _ => .bad) Q
  rw [e]
  refine y_guard (by rw [s]; rfl) ?_
  rw [e] at e2
  cases us with
  | nil =>
    cases e2
    exact ⟨h⟩
  | cons u r =>
    cases hr : toDs (u :: r) with
    | none => rw [hr] at e2; cases e2
    | some ds =>
      rw [hr] at e2
      cases e2
      cases ds with
      | nil => unfold toDs at hr; split at hr <;> cases hr
      | cons d ds => exact ⟨h⟩
end DL
namespace DL
open PySem PySem.Spec L2 TL
theorem sizeL : sizeLine = 16777216 := rfl
theorem rng_len (lo c : Int) (n : Nat) : (rngU lo c n).length = n := by unfold rngU; simp
theorem strsOf_map : ∀ ys : List Str, strsOf (ys.map .str) = some ys
  | [] => rfl
  | y :: ys => by
    show (strsOf (ys.map .str)).map (y :: ·) = _
    rw [strsOf_map ys]; rfl
theorem y_join1 {ys : List Str} {S : Sto} {Q : U → Sto → Prop} (h1 : ∀ y ∈ ys, y.length = 1) (h2 : ys.length ≤ 10000) (h : Q (.str (Txt.join "" ys)) S) : Y (joinM (.str "") [.lst (ys.map .str)] S) Q := by
  show Y (match strsOf (ys.map .str) with
      | some ys => guard (decide ((ys.map (·.length)).sum + ys.length * Str.length "" ≤ 16777216)) (.ok (.str (Txt.join "" ys)) S)
      | none => .bad) Q
  rw [strsOf_map]
  refine y_guard (decide_eq_true ?_) ⟨h⟩
  have e : (ys.map (·.length)).sum = ys.length := by
    clear h2 h
    induction ys with
    | nil => rfl
    | cons y r ih => rw [List.map_cons, List.sum_cons, ih fun z hz => h1 z (List.mem_cons_of_mem _ hz), h1 y List.mem_cons_self, List.length_cons]; omega
  rw [e, show Str.length "" = 0 from rfl]
  omega
theorem any_str (ws : List Str) (w : Str) : ((ws.map U.str).any fun z => eqF z (.str w)) = decide (w ∈ ws) := by
  induction ws with
  | nil => rfl
  | cons y r ih =>
    rw [List.map_cons, List.any_cons, ih]
    show ((y == w) || _) = _
    rw [str_beq, ← Bool.decide_or]
    by_cases q : y = w
    · subst q; simp
    · have q' : ¬ w = y := fun e => q e.symm
      simp [q, q']
theorem all_flat (ws : List Str) : (ws.map U.str).all flatU = true := by
  induction ws with
  | nil => rfl
  | cons y r ih => rw [List.map_cons, List.all_cons, ih]; rfl
theorem y_inL {f : Nat} {ws : List Str} {w : Str} {S : Sto} {Q : U → Sto → Prop} (hf : S[f]? = some (.lst (ws.map .str))) (h : Q (.bl (decide (w ∈ ws))) S) : Y (inU (.str w) (.loc f) S) Q := by
  have e : inB (.str w) (.loc f) S = some (decide (w ∈ ws)) := by
    unfold inB dictOf flatL DL.listOf listM
    simp only [hf]
    rw [all_flat, any_str]
    rfl
  unfold inU
  rw [e]
  exact ⟨h⟩
theorem y_inV {ws : List Str} {w : Str} {S : Sto} {Q : U → Sto → Prop} (h : Q (.bl (decide (w ∈ ws))) S) : Y (inU (.str w) (.lst (ws.map .str)) S) Q := by
  have e : inB (.str w) (.lst (ws.map .str)) S = some (decide (w ∈ ws)) := by
    unfold inB dictOf flatL DL.listOf listM
    dsimp only
    rw [all_flat, any_str]
    rfl
  unfold inU
  rw [e]
  exact ⟨h⟩
theorem y_inT {us : List U} (ws : List Str) {w : Str} {S : Sto} {Q : U → Sto → Prop} (e : us = ws.map .str) (h : Q (.bl (decide (w ∈ ws))) S) : Y (inU (.str w) (.tup us) S) Q := by
  subst e
  have e : inB (.str w) (.tup (ws.map .str)) S = some (decide (w ∈ ws)) := by
    unfold inB
    dsimp only
    rw [all_flat, any_str]
    rfl
  unfold inU
  rw [e]
  exact ⟨h⟩
theorem Fr.setNew {ms : List Nat} {S S1 : Sto} {f : Nat} {o : Ob} (a : Fr ms S S1) (h : S.length ≤ f) : Fr ms S (S1.set f o) :=
  ⟨by rw [List.length_set]; exact a.1, fun m hm hn => by rw [List.getElem?_set_ne (by omega)]; exact a.2 m hm hn⟩
theorem y_app {f : Nat} {us : List U} {u : U} {S : Sto} {Q : U → Sto → Prop} (hf : S[f]? = some (.lst us)) (hl : us.length < sizeLine) (h : Q .non (S.set f (.lst (us ++ [u])))) : Y (appM (.loc f) [u] S) Q := by
  unfold appM
  simp only [hf]
  exact y_guard (decide_eq_true hl) ⟨h⟩
theorem ty_list {f : Nat} {us : List U} {S : Sto} (hf : S[f]? = some (.lst us)) : tyU "list" (.loc f) S = true := by
  unfold tyU
  simp only [hf]
  rfl
theorem y_slS {z : Str} {lo hi : Option Int} {S : Sto} {Q : U → Sto → Prop} (hz : z.length ≤ sizeLine) (h : Q (.str (cutS z lo hi)) S) : Y (oU (slB (.str z) lo hi S) S) Q := y_oU (show (if z.length ≤ sizeLine then some (U.str (cutS z lo hi)) else none) = _ by rw [if_pos hz]) h
theorem sto_snoc {S : Sto} {o : Ob} : (S ++ [o])[S.length]? = some o := by simp
theorem len_ok {a : Nat} (h : Nat.ble a sizeLine = true) : a ≤ sizeLine := Nat.le_of_ble_eq_true h
theorem cut_mem {us : List U} {lo hi : Option Int} {u : U} (h : u ∈ cutU us lo hi) : u ∈ us := List.mem_of_mem_drop (List.mem_of_mem_take h)
theorem cut_len (us : List U) (lo hi : Option Int) : (cutU us lo hi).length ≤ us.length := by unfold cutU; rw [List.length_take, List.length_drop]; omega
theorem cut_pre (us : List U) (j : Nat) : cutU us none (some (j : Int)) = us.take j := by
  unfold cutU
  rw [HT.sIx_none, HT.sIx_nat, List.drop_zero, Nat.sub_zero]
  rw [List.take_eq_take_iff]; omega
theorem cut_suf (us : List U) (j : Nat) : cutU us (some (j : Int)) none = us.drop j := by
  unfold cutU
  rw [HT.sIx_none, HT.sIx_nat]
  have : us.drop (min j us.length) = us.drop j := by
    by_cases h : j ≤ us.length
    · rw [Nat.min_eq_left h]
    · rw [Nat.min_eq_right (by omega), List.drop_length, List.drop_eq_nil_of_le (by omega)]
  rw [this, List.take_of_length_le (by rw [List.length_drop]; omega)]
theorem y_slT {us : List U} {lo hi : Option Int} {S : Sto} {Q : U → Sto → Prop} (h : Q (.tup (cutU us lo hi)) S) : Y (oU (slB (.tup us) lo hi S) S) Q := y_oU (o := slB (.tup us) lo hi S) rfl h
theorem y_slL {us : List U} {lo hi : Option Int} {S : Sto} {Q : U → Sto → Prop} (h : Q (.lst (cutU us lo hi)) S) : Y (oU (slB (.lst us) lo hi S) S) Q := y_oU (o := slB (.lst us) lo hi S) rfl h
theorem y_listT {us : List U} {S : Sto} {Q : List U → Sto → Prop} (h : Q us S) : Y (listC [.tup us] S) Q := ⟨h⟩
theorem y_lenT {us : List U} {S : Sto} {Q : U → Sto → Prop} (h : Q (.int us.length) S) : Y (lenC [.tup us] S) Q := ⟨h⟩
theorem y_lenZ {z : Str} {S : Sto} {Q : U → Sto → Prop} (hz : z.length ≤ sizeLine) (h : Q (.int z.length) S) : Y (lenC [.str z] S) Q := by
  unfold lenC lenU
  dsimp only
  rw [if_pos hz]
  exact ⟨h⟩
def isTup : U → Bool
  | .tup _ => true
  | _ => false
def isStr : U → Bool
  | .str _ => true
  | _ => false
theorem y_isT {c n : Nat} {u : U} {S : Sto} {Q : U → Sto → Prop} (p : Pl c n u) (h : Q (.bl (isTup u)) S) : Y (isiC [u, .ty "tuple"] S) Q := by
  cases u with
  | non => exact ⟨h⟩
  | bl b => exact ⟨h⟩
  | int i => exact ⟨h⟩
  | str z => exact ⟨h⟩
  | tup us => exact ⟨h⟩
  | lst us => exact ⟨h⟩
  | _ => cases n <;> (unfold Pl at p; exact p.elim)
theorem y_isS {c n : Nat} {u : U} {S : Sto} {Q : U → Sto → Prop} (p : Pl c n u) (h : Q (.bl (isStr u)) S) : Y (isiC [u, .ty "str"] S) Q := by
  cases u with
  | non => exact ⟨h⟩
  | bl b => exact ⟨h⟩
  | int i => exact ⟨h⟩
  | str z => exact ⟨h⟩
  | tup us => exact ⟨h⟩
  | lst us => exact ⟨h⟩
  | _ => cases n <;> (unfold Pl at p; exact p.elim)
theorem Pl.tup {c n : Nat} {us : List U} (p : Pl c n (.tup us)) : us.length ≤ c ∧ ∃ m, n = m + 1 ∧ ∀ u ∈ us, Pl c m u := by
  cases n with
  | zero => unfold Pl at p; exact p.elim
  | succ n => exact ⟨p.1, n, rfl, p.2⟩
end DL

set_option Elab.async false
set_option linter.all false
set_option maxRecDepth 100000
namespace DL
open PySem PySem.Spec L2 TL
/-! ### sayings -/
inductive Op where
  | and | or | gives | same
def Op.s : Op → Str
  | .and => "and"
  | .or => "or"
  | .gives => "if"
  | .same => "same"
inductive Say where
  | yes | no
  | name (w : Str)
  | neg (a : Say)
  | bin (o : Op) (a b : Say)
namespace Say
def u : Say → U
  | yes => .tup [.str "yes"]
  | no => .tup [.str "no"]
  | name w => .tup [.str "name", .str w]
  | neg a => .tup [.str "not", a.u]
  | bin o a b => .tup [.str o.s, a.u, b.u]
def deep : Say → Nat
  | neg a => a.deep + 1
  | bin _ a b => max a.deep b.deep + 1
  | _ => 1
def parts : Say → Nat
  | neg a => a.parts + 1
  | bin _ a b => a.parts + b.parts + 1
  | _ => 1
def On (P : Str → Prop) : Say → Prop
  | name w => P w
  | neg a => a.On P
  | bin _ a b => a.On P ∧ b.On P
  | _ => True
theorem On.mono {P Q : Str → Prop} (h : ∀ w, P w → Q w) : ∀ {x : Say}, x.On P → x.On Q
  | yes, _ => trivial
  | no, _ => trivial
  | name w, p => h w p
  | neg a, p => On.mono (x := a) h p
  | bin _ a b, p => ⟨On.mono (x := a) h p.1, On.mono (x := b) h p.2⟩
theorem deep_pos (x : Say) : 1 ≤ x.deep := by cases x <;> simp [deep]
theorem parts_pos (x : Say) : 1 ≤ x.parts := by cases x <;> simp [parts]
end Say
theorem op_ok (o : Op) : PyData.strOk o.s = true ∧ o.s.length ≤ sizeLine := by cases o <;> decide +kernel
theorem Say.pl {x : Say} (h : x.On fun w => PyData.strOk w = true ∧ w.length ≤ sizeLine) : Pl 3 x.deep x.u := by
  have s1 : PyData.strOk "yes" = true ∧ Str.length "yes" ≤ sizeLine := by decide +kernel
  have s2 : PyData.strOk "no" = true ∧ Str.length "no" ≤ sizeLine := by decide +kernel
  have s3 : PyData.strOk "name" = true ∧ Str.length "name" ≤ sizeLine := by decide +kernel
  have s4 : PyData.strOk "not" = true ∧ Str.length "not" ≤ sizeLine := by decide +kernel
  have str : ∀ {n : Nat} {z : Str}, (PyData.strOk z = true ∧ z.length ≤ sizeLine) → Pl 3 n (.str z) := fun {n z} h => Pl.strs h
  induction x with
  | yes => exact ⟨(by decide : 1 ≤ 3), fun u hu => by rw [List.mem_singleton.mp hu]; exact str s1⟩
  | no => exact ⟨(by decide : 1 ≤ 3), fun u hu => by rw [List.mem_singleton.mp hu]; exact str s2⟩
  | name w =>
    refine ⟨(by decide : 2 ≤ 3), fun u hu => ?_⟩
    simp only [List.mem_cons, List.mem_nil_iff, or_false] at hu
    rcases hu with rfl | rfl
    · exact str s3
    · exact str h
  | neg a ih =>
    refine ⟨(by decide : 2 ≤ 3), fun u hu => ?_⟩
    simp only [List.mem_cons, List.mem_nil_iff, or_false] at hu
    rcases hu with rfl | rfl
    · exact str s4
    · exact ih h
  | bin o a b iha ihb =>
    refine ⟨(by decide : 3 ≤ 3), fun u hu => ?_⟩
    simp only [List.mem_cons, List.mem_nil_iff, or_false] at hu
    rcases hu with rfl | rfl | rfl
    · exact str (op_ok o)
    · exact (iha h.1).up (Nat.le_max_left _ _)
    · exact (ihb h.2).up (Nat.le_max_right _ _)
/-- how far a saying reads the tape -/
def cst : Nat → Int
  | 0 => 90
  | d + 1 => 90 + 2 * cst d
theorem cst_pos : ∀ d, 90 ≤ cst d
  | 0 => Int.le_refl _
  | d + 1 => by have := cst_pos d; unfold cst; omega
theorem y_min {i j : Int} {S : Sto} {Q : U → Sto → Prop} (h : Q (.int (if j < i then j else i)) S) : Y (minC [.int i, .int j] S) Q := ⟨h⟩
theorem y_max {i j : Int} {S : Sto} {Q : U → Sto → Prop} (h : Q (.int (if j > i then j else i)) S) : Y (maxC [.int i, .int j] S) Q := ⟨h⟩
theorem y_intB {b : Bool} {S : Sto} {Q : U → Sto → Prop} (h : Q (.int (if b then 1 else 0)) S) : Y (intC [.bl b] S) Q := ⟨h⟩
theorem ix_first {f : Nat} {S : Sto} {u : U} {us : List U} (h : S[f]? = some (.lst (u :: us))) : ixB (.loc f) (.int 0) S = some u := by
  unfold ixB DL.listOf listM
  simp only [h]
  exact atI_nat (j := 0) rfl
theorem st_first {f : Nat} {S : Sto} {u v : U} {us : List U} (h : S[f]? = some (.lst (u :: us))) : stU (.loc f) (.int 0) v S = some (S.set f (.lst (v :: us))) := by
  unfold stU
  simp only [h]
  rw [show ixN (u :: us).length 0 = some 0 from by unfold ixN; rw [if_pos (by decide), if_pos (by rw [List.length_cons]; omega)]; rfl]
  rfl
theorem y_lenS {ws : List Str} {S : Sto} {Q : U → Sto → Prop} (h : Q (.int (ws.length : Nat)) S) : Y (lenC [.lst (ws.map .str)] S) Q := y_lenL (by rw [List.length_map]; exact h)
theorem y_ixW {ws : List Str} {i : Int} {S : Sto} {Q : U → Sto → Prop} (h0 : 0 ≤ i) (h1 : i < (ws.length : Nat)) (h : ∀ w, w ∈ ws → ws[i.toNat]? = some w → Q (.str w) S) : Y (ixU (.lst (ws.map .str)) (.int i) S) Q := by
  refine y_ixL h0 (by rw [List.length_map]; exact h1) fun u hu e => ?_
  rw [List.getElem?_map] at e
  obtain ⟨w, hw, rfl⟩ := Option.map_eq_some_iff.mp e
  exact h w (List.mem_of_getElem? hw) hw
theorem y_lenK {us : List U} (m : Nat) {S : Sto} {Q : U → Sto → Prop} (e : us.length = m) (h : Q (.int (m : Int)) S) : Y (lenC [.lst us] S) Q := y_lenL (by rw [e]; exact h)
end DL
namespace DL
open PySem PySem.Spec L2 TL
theorem y_rng02 {g : FA} {d : En} {S : Sto} {QA : List U → Sto → Prop} (h : Y (g d S) fun us S1 => ∃ l : Nat, us = [.int 0, .int ((l : Int) - 1), .int 2] ∧ 1 ≤ l ∧ l ≤ 100000 ∧ QA (rngU 0 2 (l / 2)) S1) : Y (aRng3 g d S) QA := y_bind (h.mono fun us S1 ⟨l, e, h1, h2, h3⟩ => by
  subst e
  have e1 : Builtin.Range.rangeSize 0 ((l : Int) - 1) 2 = ((l / 2 : Nat) : Int) := by
    unfold Builtin.Range.rangeSize
    rw [if_pos (by decide)]
    by_cases q : (0 : Int) < (l : Int) - 1
    · rw [if_pos q]; omega
    · rw [if_neg q]; omega
  refine y_guard ?_ ?_
  · rw [e1, decide_eq_true (by decide : (2 : Int) ≠ 0), decide_eq_true (by decide : (2 : Int).natAbs < 1073741824), decide_eq_true (by omega : (0 : Int) ≤ ((l / 2 : Nat) : Int))]
    have fits : ∀ i : Int, -(2 ^ 63) ≤ i → i < 2 ^ 63 → Builtin.Range.rangeFitsLong i = true := fun i a b => by
      unfold Builtin.Range.rangeFitsLong
      rw [decide_eq_true a, decide_eq_true b]
      rfl
    simp [Builtin.Range.small]
    rw [e1]
    exact ⟨⟨⟨⟨fits _ (by decide) (by decide), fits _ (by omega) (by omega)⟩, fits _ (by decide) (by decide)⟩, fits _ (by omega) (by omega)⟩, .inr (fits _ (by omega) (by omega))⟩
  · refine y_ok ?_
    show QA (rngU 0 2 (Builtin.Range.rangeSize 0 ((l : Int) - 1) 2).toNat) S1
    rw [e1, Int.toNat_natCast]
    exact h3)
theorem rng_mem {lo c : Int} {n : Nat} {u : U} (h : u ∈ rngU lo c n) : ∃ i : Nat, i < n ∧ u = .int (lo + (i : Int) * c) := by
  unfold rngU at h
  obtain ⟨i, hi, rfl⟩ := List.mem_map.mp h
  exact ⟨i, List.mem_range.mp hi, rfl⟩
end DL
namespace DL
open PySem PySem.Spec L2 TL
/-! ### comprehensions that change nothing -/
theorem y_compM {gt : U → En → Option En} {f : FE} {d : En} {S : Sto} {Q : List U → Sto → Prop} (g : U → U) : ∀ (us acc : List U), (∀ u ∈ us, ∃ d1, gt u d = some d1 ∧ Y (f d1 S) fun y S2 => y = g u ∧ S2 = S) → acc.length + us.length ≤ sizeLine → Q (acc ++ us.map g) S → Y (compF gt fYes f d us acc S) Q
  | [], acc, _, _, hq => by
    rw [List.map_nil, List.append_nil] at hq
    exact ⟨hq⟩
  | u :: us, acc, h, hl, hq => by
    obtain ⟨d1, e, hy⟩ := h u List.mem_cons_self
    obtain ⟨y, S2, e2, rfl, rfl⟩ := hy.ok
    rw [List.length_cons] at hl
    unfold compF
    rw [e]
    dsimp only [fYes]
    rw [e2]
    refine y_guard (decide_eq_true (by omega)) (y_compM g us _ (fun v hv => h v (List.mem_cons_of_mem _ hv)) (by rw [List.length_append, List.length_singleton]; omega) ?_)
    rw [List.append_assoc]
    exact hq
theorem boolsOf_map {α : Type} (g : α → Bool) : ∀ us : List α, boolsOf (us.map fun u => U.bl (g u)) = some (us.map g)
  | [] => rfl
  | u :: us => by
    show (boolsOf (us.map fun u => U.bl (g u))).map (g u :: ·) = _
    rw [boolsOf_map g us]; rfl
theorem intsOf_map {α : Type} (g : α → Int) : ∀ us : List α, intsOf (us.map fun u => U.int (g u)) = some (us.map g)
  | [] => rfl
  | u :: us => by
    show (intsOf (us.map fun u => U.int (g u))).map (g u :: ·) = _
    rw [intsOf_map g us]; rfl
theorem valU_look (z : Str) : ∀ tab : List (Str × U), valU (tab.map fun p => (.inr p.1 : Key)) (tab.map (·.2)) (.inr z) = lookT tab z
  | [] => rfl
  | (k, u) :: r => by
    show (if (Sum.inr k : Key) = .inr z then some u else valU (r.map fun p => (.inr p.1 : Key)) (r.map (·.2)) (.inr z)) = if k = z then some u else lookT r z
    rw [valU_look z r]
    by_cases q : k = z
    · rw [if_pos q, if_pos (by rw [q])]
    · rw [if_neg q, if_neg fun e => q (Sum.inr.inj e)]
end DL

set_option Elab.async false
set_option linter.all false
set_option maxRecDepth 100000
namespace DL
open PySem PySem.Spec L2
section
variable {d : En} {S : Sto} {Q : U → Sto → Prop} {QA : List U → Sto → Prop} {fa fb fe : FE} {ga : FA} {D : EU}
theorem y_mkx {c f : Str} (h : Y (ga d S) fun us S1 => ∃ u, us = [u] ∧ Q (.exc c f u) S1) : Y (fMkx c f ga d S) Q := y_bind (h.mono fun us S1 ⟨u, e, h1⟩ => by subst e; exact ⟨h1⟩)
theorem y_mkx1 {c f : Str} (h : Y (fa d S) fun u S1 => Q (.exc c f u) S1) : Y (fMkx c f (aCons fa aNil) d S) Q := y_mkx (y_cons (h.mono fun u S1 h1 => y_nil ⟨u, rfl, h1⟩))
theorem y_aAdd (h : Y (fa d S) fun x S1 => Y (fb d S1) fun y S2 => ∃ a b, listM x S2 = some a ∧ listM y S2 = some b ∧ a.length + b.length ≤ sizeLine ∧ QA (a ++ b) S2) : Y (aAdd fa fb d S) QA := y_bind (h.mono fun x S1 h1 => y_bind (h1.mono fun y S2 ⟨a, b, e1, e2, hl, h2⟩ => by
  show Y (match listM x S2, listM y S2 with
    | some a, some b => guard (decide (a.length + b.length ≤ sizeLine)) (.ok (a ++ b) S2)
    | _, _ => .bad) QA
  rw [e1, e2]
  exact y_guard (decide_eq_true hl) ⟨h2⟩))
theorem y_fld {cs : List Str} {f : Str} (h : Y (fe d S) fun u S1 => ∃ c v, u = .exc c f v ∧ cs.contains c = true ∧ Q v S1) : Y (fFld cs f fe d S) Q := y_bind (h.mono fun u S1 ⟨c, v, e, hc, h1⟩ => by
  subst e
  show Y (if cs.contains c && decide (f = f) then .ok v S1 else .bad) Q
  rw [hc, decide_eq_true rfl]
  exact ⟨h1⟩)
theorem y_appG {f : Nat} {us : List U} {u : U} (hf : S[f]? = some (.lst us)) (hl : us.length < sizeLine) (h : ∀ S', S'[f]? = some (.lst (us ++ [u])) → S'.length = S.length → Fr [f] S S' → Q .non S') : Y (appM (.loc f) [u] S) Q :=
  y_app hf hl (h _ (List.getElem?_set_self (List.getElem?_eq_some_iff.mp hf).1) List.length_set (Fr.set (by simp)))
theorem y_locG {g : FA} (h : Y (g d S) fun us S1 => ∀ n S', n = S1.length → S'[n]? = some (.lst us) → S'.length = S1.length + 1 → Fr [] S1 S' → Q (.loc n) S') : Y (fLoc g d S) Q := y_loc (h.mono fun us S1 h1 => h1 _ _ rfl sto_snoc (by simp) Fr.push)
theorem y_dlocG {g : FD} (h : Y (g d S) fun p S1 => ∀ n S', n = S1.length → S'[n]? = some (.dic p.1 p.2) → S'.length = S1.length + 1 → Fr [] S1 S' → Q (.loc n) S') : Y (fDloc g d S) Q := y_dloc (h.mono fun us S1 h1 => h1 _ _ rfl sto_snoc (by simp) Fr.push)
theorem w_iceL {i n : Nat} {us : List U} (h1 : d[i]? = some (some (.loc n))) (h2 : S[n]? = some (.lst us)) (h : D.nx (d.set i (some (.lst us))) (S.set n .dead)) : WS (iceV i d S) D := by
  unfold iceV
  rw [h1]
  dsimp only
  rw [h2]
  exact ⟨h⟩
theorem w_iceG {i n : Nat} {us : List U} (h1 : d[i]? = some (some (.loc n))) (h2 : S[n]? = some (.lst us)) (h : ∀ S', S'.length = S.length → Fr [n] S S' → D.nx (d.set i (some (.lst us))) S') : WS (iceV i d S) D :=
  w_iceL h1 h2 (h _ List.length_set (Fr.set (by simp)))
theorem w_raise {c f : Str} (h : Y (ga d S) fun us S1 => ∃ u, us = [u] ∧ D.ex ⟨c, f, u⟩ d S1) : WS (fRaise c f ga d S) D := ws_toS (h.mono fun us S1 ⟨u, e, h1⟩ => by subst e; exact ⟨h1⟩)
theorem lm_loc {n : Nat} {us : List U} (h : S[n]? = some (.lst us)) : listM (.loc n) S = some us := by unfold listM; dsimp only; rw [h]
theorem WS.nxt {r : R Fl} {d1 : En} {S1 : Sto} {g : FS} {D' : EU} (e : r = .ok (.nx d1) S1) (h : WS (g d1 S1) D') (hD : D.nx = fun d S => WS (g d S) D') : WS r D := by rw [e]; refine ⟨?_⟩; show D.nx d1 S1; rw [hD]; exact h
theorem w_nxt {g h : FS} {d1 : En} {S1 : Sto} (e : g d S = .ok (.nx d1) S1) (h1 : WS (h d1 S1) D) : WS (fSeq g h d S) D := w_seq (by rw [e]; exact ⟨h1⟩)
theorem WS.of {r : R Fl} {fl : Fl} (e : r = .ok fl S) (h : WS (.ok fl S) D) : WS r D := by rw [e]; exact h
end
/-! ### == of plain things with themselves -/
mutual
theorem eqv_refl : ∀ d : PyData, d.canLay0 = true → PyData.eqv d d = true
  | .none, _ => by unfold PyData.eqv; rfl
  | .bool b, _ => by unfold PyData.eqv; simp
  | .int i, _ => by unfold PyData.eqv; simp
  | .str s, _ => by unfold PyData.eqv; simp
  | .list xs, h => by unfold PyData.eqv; exact eqvAll_refl xs (by unfold PyData.canLay0 at h; exact h)
  | .tuple xs, h => by unfold PyData.eqv; exact eqvAll_refl xs (by unfold PyData.canLay0 at h; exact h)
  | .dict kvs, h => by unfold PyData.canLay0 at h; cases h
theorem eqvAll_refl : ∀ ds : List PyData, PyData.canLayAll0 ds = true → PyData.eqvAll ds ds = true
  | [], _ => by unfold PyData.eqvAll; rfl
  | d :: ds, h => by
    unfold PyData.canLayAll0 at h
    rw [Bool.and_eq_true] at h
    unfold PyData.eqvAll
    rw [eqv_refl d h.1, eqvAll_refl ds h.2]
    rfl
end
end DL

set_option Elab.async false
set_option linter.all false
set_option maxRecDepth 100000
namespace DL
open PySem PySem.Spec L2 TL
/-! ### dicts whose keys are texts, the values told by the key -/
def addS (zs : List Str) (k : Str) : List Str := if k ∈ zs then zs else zs ++ [k]
def dz (zs : List Str) : List Key := zs.map Sum.inr
theorem val_z (g : Str → U) (k : Str) : ∀ zs : List Str, valU (dz zs) (zs.map g) (.inr k) = if k ∈ zs then some (g k) else none
  | [] => rfl
  | z :: zs => by
    show (if (Sum.inr z : Key) = .inr k then some (g z) else valU (dz zs) (zs.map g) (.inr k)) = _
    rw [val_z g k zs]
    by_cases h : z = k
    · subst h
      rw [if_pos rfl, if_pos List.mem_cons_self]
    · rw [if_neg fun e => h (Sum.inr.inj e)]
      by_cases h2 : k ∈ zs
      · rw [if_pos h2, if_pos (List.mem_cons_of_mem _ h2)]
      · rw [if_neg h2, if_neg fun q => (List.mem_cons.mp q).elim (fun e => h e.symm) h2]
theorem hasK_z (k : Str) : ∀ zs : List Str, hasK (dz zs) (.inr k) = decide (k ∈ zs)
  | [] => rfl
  | z :: zs => by
    show (decide ((Sum.inr z : Key) = .inr k) || hasK (dz zs) (.inr k)) = _
    rw [hasK_z k zs]
    by_cases h : z = k
    · subst h
      rw [decide_eq_true rfl, decide_eq_true List.mem_cons_self]
      rfl
    · rw [decide_eq_false fun e => h (Sum.inr.inj e), Bool.false_or]
      exact decide_eq_decide.mpr ⟨List.mem_cons_of_mem _, fun q => (List.mem_cons.mp q).elim (fun e => absurd e.symm h) id⟩
theorem repl_z (g : Str → U) (k : Str) : ∀ zs : List Str, replU (dz zs) (zs.map g) (.inr k) (g k) = zs.map g
  | [] => rfl
  | z :: zs => by
    show (if (Sum.inr z : Key) = .inr k then g k else g z) :: replU (dz zs) (zs.map g) (.inr k) (g k) = _
    rw [repl_z g k zs, List.map_cons]
    by_cases h : z = k
    · subst h; rw [if_pos rfl]
    · rw [if_neg fun e => h (Sum.inr.inj e)]
theorem put_z (g : Str → U) (k : Str) (zs : List Str) : putU (dz zs) (zs.map g) (.inr k) (g k) = (dz (addS zs k), (addS zs k).map g) := by
  unfold putU addS
  rw [hasK_z]
  by_cases h : k ∈ zs
  · rw [decide_eq_true h, if_pos rfl, if_pos h, repl_z]
  · rw [decide_eq_false h, if_neg (by decide), if_neg h]
    unfold dz
    rw [List.map_append, List.map_append]
    rfl
theorem merge_z (g : Str → U) : ∀ (l zs : List Str), mergeU (dz zs, zs.map g) (l.map fun k => (.inr k, g k)) = (dz (l.foldl addS zs), (l.foldl addS zs).map g)
  | [], zs => rfl
  | k :: l, zs => by
    show mergeU (putU (dz zs) (zs.map g) (.inr k) (g k)) (l.map fun k => (.inr k, g k)) = _
    rw [put_z, merge_z g l]
    rfl
theorem addS_mem {zs : List Str} {k x : Str} : x ∈ addS zs k ↔ x ∈ zs ∨ x = k := by
  unfold addS
  by_cases h : k ∈ zs
  · rw [if_pos h]; exact ⟨.inl, fun q => q.elim id fun e => e ▸ h⟩
  · rw [if_neg h, List.mem_append, List.mem_singleton]
theorem addS_nodup {zs : List Str} {k : Str} (h : zs.Nodup) : (addS zs k).Nodup := by
  unfold addS
  by_cases q : k ∈ zs
  · rw [if_pos q]; exact h
  · rw [if_neg q, List.nodup_append]
    exact ⟨h, by simp, fun a ha b hb e => q (by rw [List.mem_singleton.mp hb] at e; rw [← e]; exact ha)⟩
theorem addS_len {zs : List Str} {k : Str} : (addS zs k).length ≤ zs.length + 1 := by
  unfold addS
  split
  · omega
  · rw [List.length_append, List.length_singleton]; exact Nat.le_refl _
theorem fold_mem {x : Str} : ∀ {l zs : List Str}, x ∈ l.foldl addS zs ↔ x ∈ zs ∨ x ∈ l
  | [], zs => by simp
  | k :: l, zs => by
    rw [List.foldl_cons, fold_mem, addS_mem, List.mem_cons]
    constructor
    · rintro ((h | h) | h)
      · exact .inl h
      · exact .inr (.inl h)
      · exact .inr (.inr h)
    · rintro (h | h | h)
      · exact .inl (.inl h)
      · exact .inl (.inr h)
      · exact .inr h
theorem fold_nodup : ∀ {l zs : List Str}, zs.Nodup → (l.foldl addS zs).Nodup
  | [], _, h => h
  | k :: l, zs, h => fold_nodup (l := l) (addS_nodup h)
theorem fold_len : ∀ {l zs : List Str}, (l.foldl addS zs).length ≤ zs.length + l.length
  | [], zs => Nat.le_refl _
  | k :: l, zs => by
    have h1 := fold_len (l := l) (zs := addS zs k)
    have h2 := addS_len (zs := zs) (k := k)
    rw [List.foldl_cons, List.length_cons]
    omega
theorem keys_z : ∀ zs : List Str, keysS (dz zs) = some zs
  | [] => rfl
  | z :: zs => by
    show (keysS (dz zs)).map (z :: ·) = _
    rw [keys_z zs]
    rfl
/-- sorted, no one twice: told by the members -/
theorem sort_nub {zs l : List Str} (h : zs.Nodup) (hm : ∀ x, x ∈ zs ↔ x ∈ l) : sortT zs = sortT (nubT l) := by
  refine pw_unique (((sortT_perm zs).trans ?_).trans (sortT_perm _).symm) (sortT_pw _) (sortT_pw _)
  rw [List.perm_ext_iff_of_nodup h (nubT_nodup l)]
  intro a
  rw [hm, nubT_mem]
theorem nub_nub {l m : List Str} (hm : ∀ x, x ∈ l ↔ x ∈ m) : sortT (nubT l) = sortT (nubT m) := sort_nub (nubT_nodup l) fun x => by rw [nubT_mem, hm]
theorem nub_len : ∀ l : List Str, (nubT l).length ≤ l.length
  | [] => Nat.le_refl _
  | x :: r => by
    have := nub_len r
    unfold nubT
    split
    · rw [List.length_cons]; omega
    · rw [List.length_cons, List.length_cons]; omega
theorem sort_len (l : List Str) : (sortT l).length = l.length := (sortT_perm l).length_eq
theorem sort_mem {l : List Str} {x : Str} : x ∈ sortT l ↔ x ∈ l := (sortT_perm l).mem_iff
theorem sort_one (w : Str) : sortT [w] = [w] := List.mergeSort_singleton w
theorem sort_nil : sortT [] = [] := List.mergeSort_nil
/-! ### sayings: names, truth -/
namespace Say
def names : Say → List Str
  | name w => [w]
  | neg a => a.names
  | bin _ a b => a.names ++ b.names
  | _ => []
theorem names_len : ∀ x : Say, x.names.length ≤ x.parts
  | yes => Nat.zero_le _
  | no => Nat.zero_le _
  | name w => Nat.le_refl _
  | neg a => by have := names_len a; show a.names.length ≤ a.parts + 1; omega
  | bin _ a b => by have := names_len a; have := names_len b; show (a.names ++ b.names).length ≤ a.parts + b.parts + 1; rw [List.length_append]; omega
theorem on_names {P : Str → Prop} : ∀ {x : Say}, x.On P → ∀ w ∈ x.names, P w
  | yes, _, w, h => by cases h
  | no, _, w, h => by cases h
  | name z, p, w, h => by rw [List.mem_singleton.mp h]; exact p
  | neg a, p, w, h => on_names (x := a) p w h
  | bin _ a b, p, w, h => (List.mem_append.mp h).elim (on_names (x := a) p.1 w) (on_names (x := b) p.2 w)
end Say
def Op.ev : Op → Bool → Bool → Bool
  | .and, a, b => a && b
  | .or, a, b => a || b
  | .gives, a, b => !a || b
  | .same, a, b => a == b
def Say.ev (ρ : Str → Bool) : Say → Bool
  | .yes => true
  | .no => false
  | .name w => ρ w
  | .neg a => !a.ev ρ
  | .bin o a b => o.ev (a.ev ρ) (b.ev ρ)
theorem Say.ev_congr {ρ τ : Str → Bool} : ∀ {x : Say}, (∀ w ∈ x.names, ρ w = τ w) → x.ev ρ = x.ev τ
  | .yes, _ => rfl
  | .no, _ => rfl
  | .name w, h => h w List.mem_cons_self
  | .neg a, h => by show (!a.ev ρ) = !a.ev τ; rw [ev_congr (x := a) h]
  | .bin o a b, h => by show o.ev _ _ = o.ev _ _; rw [ev_congr (x := a) fun w hw => h w (List.mem_append_left _ hw), ev_congr (x := b) fun w hw => h w (List.mem_append_right _ hw)]
/-! ### more steps -/
section
variable {d : En} {S : Sto} {Q : U → Sto → Prop} {QA : List U → Sto → Prop} {fa fb fe : FE} {ga : FA} {D : EU}
theorem y_dictP {l : List Str} {g : Str → U} {QD : List Key × List U → Sto → Prop} (h : QD (dz (l.foldl addS []), (l.foldl addS []).map g) S) : Y (dictC [.lst (l.map fun k => .tup [.str k, g k])] S) QD := by
  have e : pairsOf (l.map fun k => U.tup [.str k, g k]) = some (l.map fun k => ((.inr k : Key), g k)) := by
    clear h
    induction l with
    | nil => rfl
    | cons k l ih =>
      rw [List.map_cons]
      unfold pairsOf
      rw [ih]
      rfl
  have e2 : dictC [.lst (l.map fun k => .tup [.str k, g k])] S = .ok (mergeU ([], []) (l.map fun k => ((.inr k : Key), g k))) S := by
    show (match (some (l.map fun k => U.tup [.str k, g k])).bind pairsOf with
      | some ps => R.ok (mergeU ([], []) ps) S
      | none => .bad) = _
    rw [Option.bind_some, e]
  rw [e2]
  have := merge_z g l []
  have e3 : mergeU (([] : List Key), ([] : List U)) (l.map fun k => ((.inr k : Key), g k)) = _ := this
  rw [e3]
  exact ⟨h⟩
theorem y_ixZ {zs : List Str} {g : Str → U} {k : Str} (hk : k ∈ zs) (h : Q (g k) S) : Y (ixU (.dic (dz zs) (zs.map g)) (.str k) S) Q := by
  refine y_oU (u := g k) ?_ h
  show valU (dz zs) (zs.map g) (.inr k) = _
  rw [val_z, if_pos hk]
theorem y_inZ {zs : List Str} {g : Str → U} {k : Str} (h : Q (.bl (decide (k ∈ zs))) S) : Y (inU (.str k) (.dic (dz zs) (zs.map g)) S) Q := by
  have e : inB (.str k) (.dic (dz zs) (zs.map g)) S = some (decide (k ∈ zs)) := by
    show some (valU (dz zs) (zs.map g) (.inr k)).isSome = _
    rw [val_z]
    by_cases q : k ∈ zs
    · rw [if_pos q, decide_eq_true q]; rfl
    · rw [if_neg q, decide_eq_false q]; rfl
  unfold inU
  rw [e]
  exact ⟨h⟩
theorem y_ninZ {zs : List Str} {g : Str → U} {k : Str} (h : Q (.bl (!decide (k ∈ zs))) S) : Y (ninU (.str k) (.dic (dz zs) (zs.map g)) S) Q := by
  have e : inB (.str k) (.dic (dz zs) (zs.map g)) S = some (decide (k ∈ zs)) := by
    show some (valU (dz zs) (zs.map g) (.inr k)).isSome = _
    rw [val_z]
    by_cases q : k ∈ zs
    · rw [if_pos q, decide_eq_true q]; rfl
    · rw [if_neg q, decide_eq_false q]; rfl
  unfold ninU
  rw [e]
  exact ⟨h⟩
theorem y_ninV {ws : List Str} {w : Str} (h : Q (.bl (!decide (w ∈ ws))) S) : Y (ninU (.str w) (.lst (ws.map .str)) S) Q := by
  have e : inB (.str w) (.lst (ws.map .str)) S = some (decide (w ∈ ws)) := by
    unfold inB dictOf flatL DL.listOf listM
    dsimp only
    rw [all_flat, any_str]
    rfl
  unfold ninU
  rw [e]
  exact ⟨h⟩
theorem st_z {n : Nat} {zs : List Str} {g : Str → U} {k : Str} (h : S[n]? = some (.dic (dz zs) (zs.map g))) (hl : zs.length < sizeLine) : stU (.loc n) (.str k) (g k) S = some (S.set n (.dic (dz (addS zs k)) ((addS zs k).map g))) := by
  have := st_of (k := k) (v := g k) h (by unfold dz; rw [List.length_map]; exact hl) (put_z g k zs)
  exact this
theorem y_sortD {n : Nat} {zs : List Str} {us : List U} (h : S[n]? = some (.dic (dz zs) us)) (hl : zs.length < 64) (hq : QA ((sortT zs).map .str) S) : Y (sortedC [.loc n] S) QA := by
  unfold sortedC dictOf
  simp only [h]
  rw [keys_z]
  exact y_guard (decide_eq_true hl) ⟨hq⟩
theorem y_sortSet {zs : List Str} (hl : zs.length < 64) (hq : QA ((sortT (nubT zs)).map .str) S) : Y (sortSetC [.lst (zs.map .str)] S) QA := by
  have e : sortSetC [.lst (zs.map .str)] S = guard (decide (zs.length < 64)) (.ok ((sortT (nubT zs)).map .str) S) := by
    show (match (some (zs.map U.str)).bind strsOf with
      | some zs => guard (decide (zs.length < 64)) (R.ok ((sortT (nubT zs)).map U.str) S)
      | none => .bad) = _
    rw [Option.bind_some, strsOf_map]
  rw [e]
  exact y_guard (decide_eq_true hl) ⟨hq⟩
end
/-! ### calls that may raise -/
section
variable {d : En} {S : Sto} {D : EU} {n i : Nat} {g : List U → Sto → R U} {fa : FA}
theorem ws_toSx {α : Type} {r : R α} {k : α → Sto → R Fl} (h : Pst r (fun a S1 => WS (k a S1) D) (fun x S1 => D.ex x d S1)) : WS (toS d r k) D := by
  cases r with
  | ok a S => exact h
  | exc x S => exact ⟨h⟩
  | bad => exact h.elim
theorem callX {Q : U → Sto → Prop} {E : Exc → Sto → Prop} (h : Y (fa d S) fun us S1 => (us.length == n) = true ∧ Pst (g us S1) Q E) : Pst (fCall n g fa d S) Q E := by
  obtain ⟨us, S1, e, h1, h2⟩ := h.ok
  show Pst ((fa d S).bind fun us S => guard (us.length == n) (g us S)) Q E
  rw [e]
  show Pst (guard (us.length == n) (g us S1)) Q E
  rw [h1]
  exact h2
theorem w_exprX (h : Y (fa d S) fun us S1 => (us.length == n) = true ∧ Pst (g us S1) (fun _ S2 => D.nx d S2) (fun x S2 => D.ex x d S2)) : WS (fExpr (fCall n g fa) d S) D := ws_toSx ((callX h).mono (fun _ _ q => ⟨q⟩) fun _ _ q => q)
theorem w_setX (h : Y (fa d S) fun us S1 => (us.length == n) = true ∧ Pst (g us S1) (fun u S2 => D.nx (d.set i (some u)) S2) (fun x S2 => D.ex x d S2)) : WS (fSet i (fCall n g fa) d S) D := ws_toSx ((callX h).mono (fun _ _ q => ⟨q⟩) fun _ _ q => q)
theorem w_retX (h : Y (fa d S) fun us S1 => (us.length == n) = true ∧ Pst (g us S1) (fun u S2 => D.rt u S2) (fun x S2 => D.ex x d S2)) : WS (fRet (fCall n g fa) d S) D := ws_toSx ((callX h).mono (fun _ _ q => ⟨q⟩) fun _ _ q => q)
theorem y_runX {body : FS} {Q : U → Sto → Prop} {E : Exc → Sto → Prop} (h : WS (body d S) { nx := fun _ S1 => Q .non S1, rt := Q, ex := fun x _ S1 => E x S1 }) : Pst (runB body d S) Q E := by
  unfold runB
  cases e : body d S with
  | ok fl S1 =>
    rw [e] at h
    cases fl with
    | nx d => exact h.out
    | rt u => exact h.out
    | bk d => exact h.out.elim
    | ct d => exact h.out.elim
    | ex x d => exact h.out
  | exc x S => rw [e] at h; exact h.out.elim
  | bad => rw [e] at h; exact h.out.elim
theorem Y.pst {α : Type} {r : R α} {Q P : α → Sto → Prop} {E : Exc → Sto → Prop} (h : Y r Q) (q : ∀ a S, Q a S → P a S) : Pst r P E := Pst.mono h.out q fun _ _ z => z.elim
end
/-! ### a try: what is caught goes on -/
theorem w_try {m : Str → Option Bool} {i : Nat} {fb fs : FS} {d : En} {S : Sto} {D : EU}
    (h : WS (fb d S) { D with ex := fun x d1 S1 => m x.cls = some true ∧ WS (fs (d1.set i (some (.exc x.cls x.fld x.arg))) S1) { nx := fun d2 S2 => D.nx (d2.set i none) S2, rt := D.rt, bk := fun d2 S2 => D.bk (d2.set i none) S2, ct := fun d2 S2 => D.ct (d2.set i none) S2 } }) : WS (fTry m i fb fs d S) D := by
  unfold fTry
  cases e : fb d S with
  | bad => rw [e] at h; exact h.out.elim
  | exc x S1 => rw [e] at h; exact h.out.elim
  | ok fl S1 =>
    rw [e] at h
    cases fl with
    | nx d1 => exact ⟨h.out⟩
    | rt u => exact ⟨h.out⟩
    | bk d1 => exact ⟨h.out⟩
    | ct d1 => exact ⟨h.out⟩
    | ex x d1 =>
      obtain ⟨hm, h⟩ := h.out
      show WS (match m x.cls with
        | some true => match fs (d1.set i (some (.exc x.cls x.fld x.arg))) S1 with
          | .ok (.nx d2) S2 => .ok (.nx (d2.set i none)) S2
          | .ok (.rt u) S2 => .ok (.rt u) S2
          | .ok (.bk d2) S2 => .ok (.bk (d2.set i none)) S2
          | .ok (.ct d2) S2 => .ok (.ct (d2.set i none)) S2
          | _ => .bad
        | some false => .ok (.ex x d1) S1
        | none => .bad) D
      rw [hm]
      dsimp only
      cases e2 : fs (d1.set i (some (.exc x.cls x.fld x.arg))) S1 with
      | bad => rw [e2] at h; exact h.out.elim
      | exc y S2 => rw [e2] at h; exact h.out.elim
      | ok fl S2 =>
        rw [e2] at h
        cases fl with
        | nx d2 => exact ⟨h.out⟩
        | rt u => exact ⟨h.out⟩
        | bk d2 => exact ⟨h.out⟩
        | ct d2 => exact ⟨h.out⟩
        | ex y d2 => exact h.out.elim
/-! ### loops and comprehensions, turn by turn -/
section
variable {d d1 : En} {S : Sto} {D : EU} {gt : U → En → Option En} {g : FS} {u : U} {us : List U} {f : FE} {t : FT}
theorem w_lc (e : gt u d = some d1) (h : WS (g d1 S) { D with nx := fun d2 S2 => WS (loopF gt g us d2 S2) D, ct := fun d2 S2 => WS (loopF gt g us d2 S2) D, bk := D.nx }) : WS (loopF gt g (u :: us) d S) D := by
  unfold loopF
  rw [e]
  show WS (match g d1 S with
      | .ok (.nx d2) S1 => loopF gt g us d2 S1
      | .ok (.ct d2) S1 => loopF gt g us d2 S1
      | .ok (.bk d2) S1 => .ok (.nx d2) S1
      | r => r) D
  cases hg : g d1 S with
  | ok fl S1 =>
    rw [hg] at h
    cases fl <;> first | exact h.out | exact ⟨h.out⟩
  | exc x S => rw [hg] at h; exact h.out.elim
  | bad => rw [hg] at h; exact h.out.elim
theorem w_ln (h : D.nx d S) : WS (loopF gt g [] d S) D := ⟨h⟩
theorem y_cc {acc : List U} {Q : List U → Sto → Prop} (e : gt u d = some d1) (hl : acc.length < sizeLine) (h : Y (f d1 S) fun y S2 => Y (compF gt fYes f d us (acc ++ [y]) S2) Q) : Y (compF gt fYes f d (u :: us) acc S) Q := by
  unfold compF
  rw [e]
  obtain ⟨y, S2, e2, h⟩ := Y.ok h
  dsimp only [fYes]
  rw [e2]
  exact y_guard (decide_eq_true hl) h
theorem y_cn {acc : List U} {Q : List U → Sto → Prop} (h : Q acc S) : Y (compF gt t f d [] acc S) Q := ⟨h⟩
end
/-- a comprehension that changes nothing -/
theorem y_compFM {gt : U → En → Option En} {t : FT} {f : FE} {d : En} {S : Sto} {Q : List U → Sto → Prop} (p : U → Bool) (h : U → U) : ∀ (us acc : List U), (∀ u ∈ us, ∃ d1, gt u d = some d1 ∧ Y (t d1 S) (fun b S2 => b = p u ∧ S2 = S) ∧ (p u = true → Y (f d1 S) fun y S2 => y = h u ∧ S2 = S)) → acc.length + us.length ≤ sizeLine → Q (acc ++ (us.filter p).map h) S → Y (compF gt t f d us acc S) Q
  | [], acc, _, _, hq => by
    rw [List.filter_nil, List.map_nil, List.append_nil] at hq
    exact ⟨hq⟩
  | u :: us, acc, hh, hl, hq => by
    obtain ⟨d1, e, ht, hy⟩ := hh u List.mem_cons_self
    obtain ⟨b, S2, e1, rfl, rfl⟩ := ht.ok
    rw [List.length_cons] at hl
    unfold compF
    rw [e]
    dsimp only
    rw [e1]
    have rest := fun v hv => hh v (List.mem_cons_of_mem _ hv)
    cases hp : p u with
    | true =>
      obtain ⟨y, S3, e2, rfl, rfl⟩ := (hy hp).ok
      dsimp only
      rw [e2]
      rw [List.filter_cons_of_pos hp, List.map_cons] at hq
      refine y_guard (decide_eq_true (by omega)) (y_compFM p h us _ rest (by rw [List.length_append, List.length_singleton]; omega) ?_)
      rw [List.append_assoc]
      exact hq
    | false =>
      rw [List.filter_cons_of_neg (by rw [hp]; decide)] at hq
      exact y_compFM p h us acc rest (by omega) hq
theorem cut_one (u : U) (us : List U) : cutU (u :: us) (some 1) none = us := cut_suf (u :: us) 1
theorem y_neSame {x y : U} {S : Sto} {Q : U → Sto → Prop} {a : PyData} (hx : toDS x S = some a) (hy : toDS y S = some a) (hs : SeqAt.shaped a = true) (hn : scalU x y = false) (h : Q (.bl false) S) : Y (neU x y S) Q := by
  unfold neU eqOk
  rw [hn, hx, hy]
  refine y_guard (by rw [hs]; rfl) ?_
  rw [eqv_refl a (SeqAt.canLay_of_shaped hs)]
  exact ⟨h⟩
theorem strs_D : ∀ zs : List Str, toDs (zs.map .str) = some (zs.map .str)
  | [] => rfl
  | z :: zs => by
    rw [List.map_cons]
    unfold toDs
    rw [strs_D zs]
    rfl
theorem strs_shaped {zs : List Str} (h : ∀ z ∈ zs, PyData.strOk z = true) : SeqAt.shaped (.list (zs.map .str)) = true := by
  have h1 : PyData.canLayAll0 (zs.map .str) = true ∧ PyData.depthAll (zs.map .str) ≤ 1 := by
    induction zs with
    | nil => exact ⟨rfl, Nat.zero_le _⟩
    | cons z zs ih =>
      obtain ⟨a, b⟩ := ih fun y hy => h y (List.mem_cons_of_mem _ hy)
      rw [List.map_cons]
      refine ⟨?_, ?_⟩
      · unfold PyData.canLayAll0
        rw [a, show PyData.canLay0 (.str z) = true from h z List.mem_cons_self]
        rfl
      · unfold PyData.depthAll
        rw [show PyData.depth (.str z) = 0 from rfl]
        omega
  unfold SeqAt.shaped
  rw [show PyData.canLay0 (.list (zs.map .str)) = true from by unfold PyData.canLay0; exact h1.1]
  rw [decide_eq_true (by unfold PyData.depth; have := h1.2; omega)]
  rfl
/-- a dict made of pairs with truths -/
def fupd (ρ : Str → Bool) (k : Str) (b : Bool) : Str → Bool := fun z => if z = k then b else ρ z
abbrev bls (ρ : Str → Bool) : Str → U := fun z => .bl (ρ z)
theorem put_zr (ρ : Str → Bool) (k : Str) (b : Bool) (zs : List Str) : putU (dz zs) (zs.map (bls ρ)) (.inr k) (.bl b) = (dz (addS zs k), (addS zs k).map (bls (fupd ρ k b))) := by
  unfold putU addS
  rw [hasK_z]
  by_cases h : k ∈ zs
  · rw [decide_eq_true h, if_pos rfl, if_pos h]
    congr 1
    clear h
    induction zs with
    | nil => rfl
    | cons z zs ih =>
      show (if (Sum.inr z : Key) = .inr k then U.bl b else .bl (ρ z)) :: replU (dz zs) (zs.map (bls ρ)) (.inr k) (.bl b) = U.bl (fupd ρ k b z) :: zs.map (bls (fupd ρ k b))
      rw [ih]
      unfold fupd
      by_cases e : z = k
      · rw [if_pos (by rw [e]), if_pos e]
      · rw [if_neg fun q => e (Sum.inr.inj q), if_neg e]
  · rw [decide_eq_false h, if_neg (by decide), if_neg h]
    unfold dz
    rw [List.map_append, List.map_append]
    congr 1
    congr 1
    · refine List.map_congr_left fun z hz => ?_
      show U.bl (ρ z) = .bl (fupd ρ k b z)
      unfold fupd
      rw [if_neg fun e => h (by rw [← e]; exact hz)]
    · show [U.bl b] = [U.bl (fupd ρ k b k)]
      unfold fupd
      rw [if_pos rfl]
theorem merge_zr : ∀ (ps : List (Str × Bool)) (zs : List Str) (ρ : Str → Bool), ∃ τ, mergeU (dz zs, zs.map (bls ρ)) (ps.map fun p => ((.inr p.1 : Key), U.bl p.2)) = (dz ((ps.map (·.1)).foldl addS zs), ((ps.map (·.1)).foldl addS zs).map (bls τ))
  | [], zs, ρ => ⟨ρ, rfl⟩
  | p :: ps, zs, ρ => by
    obtain ⟨τ, h⟩ := merge_zr ps (addS zs p.1) (fupd ρ p.1 p.2)
    refine ⟨τ, ?_⟩
    show mergeU (putU (dz zs) (zs.map (bls ρ)) (.inr p.1) (.bl p.2)) _ = _
    rw [put_zr]
    exact h
theorem y_dictB {ps : List (Str × Bool)} {S : Sto} {QD : List Key × List U → Sto → Prop} (h : ∀ τ, QD (dz ((ps.map (·.1)).foldl addS []), ((ps.map (·.1)).foldl addS []).map (bls τ)) S) : Y (dictC [.lst (ps.map fun p => .tup [.str p.1, .bl p.2])] S) QD := by
  have e : pairsOf (ps.map fun p => U.tup [.str p.1, .bl p.2]) = some (ps.map fun p => ((.inr p.1 : Key), .bl p.2)) := by
    clear h
    induction ps with
    | nil => rfl
    | cons k l ih =>
      rw [List.map_cons]
      unfold pairsOf
      rw [ih]
      rfl
  have e2 : dictC [.lst (ps.map fun p => .tup [.str p.1, .bl p.2])] S = .ok (mergeU ([], []) (ps.map fun p => ((.inr p.1 : Key), U.bl p.2))) S := by
    show (match (some (ps.map fun p => U.tup [.str p.1, .bl p.2])).bind pairsOf with
      | some ps => R.ok (mergeU ([], []) ps) S
      | none => .bad) = _
    rw [Option.bind_some, e]
  rw [e2]
  obtain ⟨τ, q⟩ := merge_zr ps [] fun _ => false
  have e3 : mergeU (([] : List Key), ([] : List U)) (ps.map fun p => ((.inr p.1 : Key), U.bl p.2)) = _ := q
  rw [e3]
  exact ⟨h τ⟩
theorem hits_z (zs : List Str) (ρ : Str → Bool) : ∀ l : List Str, (∀ z ∈ l, z ∈ zs) → hitsB (dz zs) (zs.map (bls ρ)) (dz l) (l.map (bls ρ)) = some true
  | [], _ => rfl
  | z :: l, h => by
    show hitsB (dz zs) (zs.map (bls ρ)) (.inr z :: dz l) (.bl (ρ z) :: l.map (bls ρ)) = _
    unfold hitsB
    rw [val_z, if_pos (h z List.mem_cons_self), hits_z zs ρ l fun y hy => h y (List.mem_cons_of_mem _ hy)]
    show (if SeqAt.shaped (.bool (ρ z)) && SeqAt.shaped (.bool (ρ z)) then some (PyData.eqv (.bool (ρ z)) (.bool (ρ z)) && true) else none) = _
    rw [eqv_refl _ rfl]
    rfl
theorem y_neZ {zs : List Str} {ρ : Str → Bool} {S : Sto} {Q : U → Sto → Prop} (h : Q (.bl false) S) : Y (neXU (.dic (dz zs) (zs.map (bls ρ))) (.dic (dz zs) (zs.map (bls ρ))) S) Q := by
  have e : dEqB (.dic (dz zs) (zs.map (bls ρ))) (.dic (dz zs) (zs.map (bls ρ))) S = some true := by
    show (hitsB (dz zs) (zs.map (bls ρ)) (dz zs) (zs.map (bls ρ))).map (fun r => (dz zs).length == (dz zs).length && r) = _
    rw [hits_z zs ρ zs fun _ h => h, Option.map_some, beq_self_eq_true]
    rfl
  unfold neXU
  rw [e]
  exact ⟨h⟩
theorem Y.eq {r : R U} {a : U} {S : Sto} (h : Y r fun u S' => u = a ∧ S' = S) : r = .ok a S := by
  obtain ⟨u, S', e, rfl, rfl⟩ := h.ok
  exact e
end DL

set_option Elab.async false
set_option linter.all false
set_option maxRecDepth 100000
namespace DL
open PySem PySem.Spec L2 TL PyProof.Rows
section
variable {S : Sto} {Q : U → Sto → Prop} {QA : List U → Sto → Prop}
theorem y_alt {α : Type} {a b : R α} {Q : α → Sto → Prop} (h : Y a Q) : Y (alt a b) Q := by
  obtain ⟨x, S, rfl, q⟩ := h.ok
  exact ⟨q⟩
theorem y_altB {α : Type} {a b : R α} {Q : α → Sto → Prop} (e : a = .bad) (h : Y b Q) : Y (alt a b) Q := by rw [e]; exact h
theorem y_sortSetS {zs : List Str} (hl : zs.length < 64) (hq : QA ((sortT (nubT zs)).map .str) S) : Y (sortSetA [.lst (zs.map .str)] S) QA := y_alt (y_sortSet hl hq)
/-! ### literals -/
abbrev Lit := Str × Bool
def litU (p : Lit) : U := .tup [.str p.1, .bl p.2]
def litD (p : Lit) : PyData := .tuple [.str p.1, .bool p.2]
theorem lit_D (p : Lit) : toD (litU p) = some (litD p) := rfl
theorem lits_D : ∀ ls : List Lit, toDs (ls.map litU) = some (ls.map litD)
  | [] => rfl
  | p :: ls => by
    rw [List.map_cons, List.map_cons]
    unfold toDs
    rw [lit_D, lits_D ls]
theorem lit_alike (p q : Lit) : PySem.W.alike (litD p) (litD q) = true := by simp [litD, PySem.W.alike, PySem.W.alikeAll]
theorem lits_sortOk (ls : List Lit) : sortOk (ls.map litD) = true := by
  unfold sortOk
  rw [Bool.and_eq_true, Bool.and_eq_true, Bool.or_eq_true]
  refine ⟨?_, .inl ?_, ?_⟩
  · rw [List.all_map, List.all_eq_true]
    intro p _
    show (ls.map litD).all _ = true
    rw [List.all_map, List.all_eq_true]
    intro q _
    exact lit_alike p q
  · rw [List.all_map, List.all_eq_true]
    intro p _
    rfl
  · rw [List.all_map, List.all_eq_true]
    intro p _
    rfl
theorem lits_keyOk (ls : List Lit) : (ls.map litD).all keyOk = true := by
  rw [List.all_map, List.all_eq_true]
  intro p _
  rfl
theorem sortD_lits (ls : List Lit) : ∃ ls' : List Lit, ls'.Perm ls ∧ sortD (ls.map litU) = ls'.map litU := by
  obtain ⟨ls', h1, h2⟩ := perm_back (f := litU) (sortD_perm (ls.map litU)) (cs := ls) rfl
  exact ⟨ls', h1, h2.symm⟩
theorem sub_lits (ls : List Lit) : ∀ {us : List U}, (∀ u ∈ us, u ∈ ls.map litU) → ∃ ls' : List Lit, (∀ p ∈ ls', p ∈ ls) ∧ us = ls'.map litU
  | [], _ => ⟨[], fun p hp => (by cases hp), rfl⟩
  | u :: us, h => by
    obtain ⟨ls', h1, h2⟩ := sub_lits ls (us := us) fun v hv => h v (List.mem_cons_of_mem _ hv)
    obtain ⟨p, hp, rfl⟩ := List.mem_map.mp (h u List.mem_cons_self)
    refine ⟨p :: ls', fun q hq => ?_, by rw [List.map_cons, h2]⟩
    rcases List.mem_cons.mp hq with rfl | hq
    · exact hp
    · exact h1 q hq
theorem nubK_len : ∀ l : List U, (nubK l).length ≤ l.length
  | [] => Nat.le_refl _
  | x :: r => by
    have := nubK_len r
    unfold nubK
    split <;> simp <;> omega
theorem strsOf_lits {p : Lit} {ls : List Lit} : strsOf ((p :: ls).map litU) = none := rfl
/-- sorted of literals -/
theorem y_sortedLits {f : Nat} {ls : List Lit} (hf : S[f]? = some (.lst (ls.map litU))) (h : ∀ ls' : List Lit, ls'.Perm ls → QA (ls'.map litU) S) : Y (sortedA [.loc f] S) QA := by
  have hd : dictOf (.loc f) S = none := by unfold dictOf; simp only [hf]
  have hl : DL.listOf (.loc f) S = some (ls.map litU) := by unfold DL.listOf listM; simp only [hf]
  unfold sortedA
  cases ls with
  | nil =>
    refine y_alt (Y.of (a := []) (S := S) ?_ (h [] (.refl _)))
    unfold sortedC
    simp only [hd, hl]
    show guard (decide (([] : List Str).length < 64)) (R.ok (List.map U.str (sortT [])) S) = R.ok [] S
    rw [sort_nil]
    rfl
  | cons p ls =>
    refine y_altB ?_ ?_
    · unfold sortedC
      simp only [hd, hl]
      rfl
    · unfold sortedDC
      simp only [hl]
      rw [lits_D]
      obtain ⟨ls', h1, h2⟩ := sortD_lits (p :: ls)
      exact y_guard (lits_sortOk _) (y_ok (by rw [h2]; exact h ls' h1))
theorem y_sortSetLits {ls : List Lit} (hn : ls.length ≤ 1000) (h : ∀ ls' : List Lit, (∀ p ∈ ls', p ∈ ls) → ls'.length ≤ ls.length → QA (ls'.map litU) S) : Y (sortSetA [.tup (ls.map litU)] S) QA := by
  unfold sortSetA
  refine y_altB rfl ?_
  unfold sortSetDC
  show Y (match toDs (ls.map litU) with
      | some ds => guard (sortOk ds && ds.all keyOk && decide (ds.length ≤ 1000)) (.ok (sortD (nubK (ls.map litU))) S)
      | none => .bad) QA
  rw [lits_D]
  obtain ⟨ls', h1, h2⟩ := sub_lits ls (us := sortD (nubK (ls.map litU))) fun u hu => nubK_sub ((sortD_perm _).mem_iff.mp hu)
  refine y_guard (by rw [lits_sortOk, lits_keyOk, List.length_map, decide_eq_true hn]; rfl) (y_ok ?_)
  rw [h2]
  refine h ls' h1 ?_
  have e := congrArg List.length h2
  rw [(sortD_perm _).length_eq, List.length_map] at e
  rw [← e]
  have := nubK_len (ls.map litU)
  rw [List.length_map] at this
  exact this
theorem y_lenSetS {zs : List Str} (hn : zs.length ≤ 1000) (h : Q (.int (nubT zs).length) S) : Y (lenSetA [.lst (zs.map .str)] S) Q := by
  refine y_alt ?_
  unfold lenSetC
  show Y (match strsOf (zs.map .str) with
    | some zs => guard (decide (zs.length ≤ 1000)) (.ok (.int (nubT zs).length) S)
    | none => .bad) Q
  rw [strsOf_map]
  exact y_guard (decide_eq_true hn) ⟨h⟩
/-- list.pop(i) -/
theorem y_popW {f : Nat} {ws : List Str} {i : Int} (hf : S[f]? = some (.lst (ws.map .str))) (h0 : 0 ≤ i) (h1 : i < ws.length) (hn : ws.length ≤ 1000)
    (h : ∀ (w : Str) (ws' : List Str) S', w ∈ ws → (∀ x ∈ ws', x ∈ ws) → ws'.length + 1 = ws.length → S'[f]? = some (.lst (ws'.map .str)) → S'.length = S.length → Fr [f] S S' → Q (.str w) S') : Y (popLM (.loc f) [.int i] S) Q := by
  obtain ⟨k, rfl⟩ := Int.eq_ofNat_of_zero_le h0
  have hk : k < ws.length := by omega
  have hix : seqIndex? (k : Int) (ws.map U.str).length = some k := by
    unfold seqIndex?
    rw [List.length_map]
    have e : ¬ ((k : Int) < 0) := by omega
    simp only [if_neg e]
    rw [if_pos (by simp; omega)]
    rfl
  unfold popLM
  simp only [hf]
  rw [hix]
  dsimp only
  rw [List.getElem?_map, List.getElem?_eq_getElem hk]
  refine y_guard (by rw [decide_eq_true (by omega), decide_eq_true (by omega)]; rfl) (y_ok ?_)
  refine h ws[k] (ws.eraseIdx k) _ (List.getElem_mem hk) (fun x hx => List.mem_of_mem_eraseIdx hx) (by rw [List.length_eraseIdx_of_lt hk]; omega) ?_ List.length_set (Fr.set (by simp))
  rw [List.getElem?_set_self (List.getElem?_eq_some_iff.mp hf).1]
  congr 2
  apply List.ext_getElem?
  intro n
  simp only [List.getElem?_eraseIdx, List.getElem?_map]
  split <;> rfl
/-! ### figures behind -/
def isDig (c : Nat) : Bool := Array.contains (Str.cps "0123456789") c
def strD (l : List Nat) : List Nat := l.take (l.length - (l.reverse.takeWhile isDig).length)
theorem strD_nil : strD [] = [] := rfl
theorem strD_snoc {l : List Nat} {c : Nat} (h : isDig c = true) : strD (l ++ [c]) = strD l := by
  unfold strD
  rw [List.reverse_append, List.reverse_singleton, List.singleton_append, List.takeWhile_cons, if_pos h, List.length_append, List.length_singleton, List.length_cons, Nat.add_sub_add_right]
  rw [List.take_append_of_le_length (Nat.sub_le _ _)]
theorem strD_keep {l : List Nat} {c : Nat} (h : isDig c = false) : strD (l ++ [c]) = l ++ [c] := by
  unfold strD
  rw [List.reverse_append, List.reverse_singleton, List.singleton_append, List.takeWhile_cons, if_neg (by rw [h]; decide), List.length_nil, Nat.sub_zero, List.take_length]
theorem strD_len (l : List Nat) : (strD l).length ≤ l.length := by unfold strD; rw [List.length_take]; omega
theorem tl_rstrip (a : Str) : tl (Txt.rstripChars a "0123456789") = strD (tl a) := by
  have e0 : stripLo (Array.contains (Str.cps "0123456789")) false a = 0 := by unfold stripLo; rw [if_neg (by decide)]
  have e1 : stripHi (Array.contains (Str.cps "0123456789")) true a 0 = a.length - ((tl a).reverse.takeWhile isDig).length := by
    unfold stripHi
    rw [if_pos rfl, List.drop_zero]
    rfl
  unfold Txt.rstripChars Txt.stripBy stripSame stripped
  rw [e0, e1]
  unfold strD
  rw [len_cs]
  split
  · rename_i c
    rw [Bool.and_eq_true, beq_iff_eq, beq_iff_eq] at c
    rw [c.2, List.take_length]
  · rw [tl_strSub, List.drop_zero, Nat.sub_zero]
theorem y_rstrip {a : Str} (ha : a.length ≤ sizeLine) (h : ∀ b : Str, tl b = strD (tl a) → Q (.str b) S) : Y (rstripM (.str a) [.str "0123456789"] S) Q := y_guard (decide_eq_true ha) (y_ok (h _ (tl_rstrip a)))
end
end DL

set_option Elab.async false
set_option linter.all false
set_option maxRecDepth 100000
namespace DL
open PySem PySem.Spec L2 TL PyProof.Rows
section
/-! ### literals as data -/
theorem lit_canLay {p : Lit} (h : PyData.strOk p.1 = true) : PyData.canLay0 (litD p) = true := by
  unfold litD PyData.canLay0 PyData.canLayAll0 PyData.canLayAll0 PyData.canLayAll0
  rw [show PyData.canLay0 (.str p.1) = true from h]
  rfl
theorem lits_canLay : ∀ {ls : List Lit}, (∀ p ∈ ls, PyData.strOk p.1 = true) → PyData.canLayAll0 (ls.map litD) = true
  | [], _ => rfl
  | p :: ls, h => by
    rw [List.map_cons]
    unfold PyData.canLayAll0
    rw [lit_canLay (h p List.mem_cons_self), lits_canLay fun q hq => h q (List.mem_cons_of_mem _ hq)]
    rfl
theorem lits_depth : ∀ ls : List Lit, PyData.depthAll (ls.map litD) ≤ 1
  | [] => Nat.zero_le _
  | p :: ls => by
    rw [List.map_cons]
    unfold PyData.depthAll
    have := lits_depth ls
    have e : (litD p).depth = 1 := rfl
    omega
theorem lit_shaped {p : Lit} (h : PyData.strOk p.1 = true) : SeqAt.shaped (litD p) = true := by
  unfold SeqAt.shaped
  rw [lit_canLay h]
  rfl
theorem lits_shaped {ls : List Lit} (h : ∀ p ∈ ls, PyData.strOk p.1 = true) : SeqAt.shaped (.tuple (ls.map litD)) = true := by
  unfold SeqAt.shaped
  rw [show PyData.canLay0 (.tuple (ls.map litD)) = true from by unfold PyData.canLay0; exact lits_canLay h, Bool.true_and]
  refine decide_eq_true ?_
  show PyData.depthAll (ls.map litD) + 1 ≤ 64
  have := lits_depth ls
  omega
theorem lit_eqv (p q : Lit) : PyData.eqv (litD p) (litD q) = decide (p = q) := by
  obtain ⟨x, a⟩ := p
  obtain ⟨y, b⟩ := q
  unfold litD
  have e1 : PyData.eqv (.str x) (.str y) = decide (x = y) := by unfold PyData.eqv; exact str_beq x y
  have e2 : PyData.eqv (.bool a) (.bool b) = decide (a = b) := by unfold PyData.eqv; cases a <;> cases b <;> rfl
  show PyData.eqv (.tuple [.str x, .bool a]) (.tuple [.str y, .bool b]) = _
  unfold PyData.eqv
  rw [PySem.W.eqv_all_cons, PySem.W.eqv_all_cons, e1, e2]
  have e3 : PyData.eqvAll [] [] = true := by unfold PyData.eqvAll; rfl
  rw [e3]
  by_cases h1 : x = y <;> by_cases h2 : a = b <;> simp [h1, h2]
theorem inTD_lits {p : Lit} {ls : List Lit} {S : Sto} (hp : PyData.strOk p.1 = true) (h : ∀ q ∈ ls, PyData.strOk q.1 = true) : inTD (litU p) (.tup (ls.map litU)) S = some (decide (p ∈ ls)) := by
  unfold inTD
  dsimp only
  rw [lit_D, lits_D]
  dsimp only
  rw [lit_shaped hp, lits_shaped h]
  simp only [Bool.and_self, if_true, Option.some.injEq]
  rw [List.any_map]
  have e : ((fun z => PyData.eqv z (litD p)) ∘ litD) = fun q => decide (q = p) := by
    funext q
    exact lit_eqv q p
  rw [e]
  induction ls with
  | nil => rfl
  | cons q ls ih =>
    rw [List.any_cons, ih fun r hr => h r (List.mem_cons_of_mem _ hr)]
    by_cases h1 : p = q
    · simp [h1]
    · have h3 : ¬ q = p := fun z => h1 z.symm
      by_cases h2 : p ∈ ls <;> simp [h1, h2, h3]
theorem y_inLits {p : Lit} {ls : List Lit} {S : Sto} {Q : U → Sto → Prop} (hp : PyData.strOk p.1 = true) (h : ∀ q ∈ ls, PyData.strOk q.1 = true) (hq : Q (.bl (decide (p ∈ ls))) S) : Y (inAU (litU p) (.tup (ls.map litU)) S) Q := by
  unfold inAU
  refine y_altB (by unfold inU inB; rfl) ?_
  unfold inDU
  rw [inTD_lits hp h]
  exact ⟨hq⟩
theorem y_ninLits {p : Lit} {ls : List Lit} {S : Sto} {Q : U → Sto → Prop} (hp : PyData.strOk p.1 = true) (h : ∀ q ∈ ls, PyData.strOk q.1 = true) (hq : Q (.bl (!decide (p ∈ ls))) S) : Y (ninAU (litU p) (.tup (ls.map litU)) S) Q := by
  unfold ninAU
  refine y_altB (by unfold ninU inB; rfl) ?_
  unfold ninDU
  rw [inTD_lits hp h]
  exact ⟨hq⟩

/-! ### clauses -/
def clU (c : List Lit) : U := .tup (c.map litU)
def clD (c : List Lit) : PyData := .tuple (c.map litD)
theorem cl_D (c : List Lit) : toD (clU c) = some (clD c) := by
  unfold clU toD
  rw [lits_D]
  rfl
theorem eqv_map {α : Type} [DecidableEq α] {f : α → PyData} (h : ∀ a b, PyData.eqv (f a) (f b) = decide (a = b)) : ∀ xs ys : List α, PyData.eqvAll (xs.map f) (ys.map f) = decide (xs = ys)
  | [], [] => by unfold PyData.eqvAll; simp
  | [], y :: ys => by unfold PyData.eqvAll; simp
  | x :: xs, [] => by unfold PyData.eqvAll; simp
  | x :: xs, y :: ys => by
    rw [List.map_cons, List.map_cons, PySem.W.eqv_all_cons, h, eqv_map h xs ys]
    by_cases h1 : x = y <;> by_cases h2 : xs = ys <;> simp [h1, h2]
theorem cl_eqv (a b : List Lit) : PyData.eqv (clD a) (clD b) = decide (a = b) := by
  unfold clD
  rw [show PyData.eqv (.tuple (a.map litD)) (.tuple (b.map litD)) = PyData.eqvAll (a.map litD) (b.map litD) from by unfold PyData.eqv; rfl]
  exact eqv_map lit_eqv a b
def LOk (c : List Lit) : Prop := ∀ p ∈ c, PyData.strOk p.1 = true
theorem cl_shaped {c : List Lit} (h : LOk c) : SeqAt.shaped (clD c) = true := lits_shaped h
theorem cls_D : ∀ cs : List (List Lit), toDs (cs.map clU) = some (cs.map clD)
  | [] => rfl
  | c :: cs => by
    rw [List.map_cons, List.map_cons]
    unfold toDs
    rw [cl_D, cls_D cs]
theorem cls_canLay : ∀ {cs : List (List Lit)}, (∀ c ∈ cs, LOk c) → PyData.canLayAll0 (cs.map clD) = true
  | [], _ => rfl
  | c :: cs, h => by
    rw [List.map_cons]
    unfold PyData.canLayAll0
    rw [show PyData.canLay0 (clD c) = true from by unfold clD PyData.canLay0; exact lits_canLay (h c List.mem_cons_self), cls_canLay fun q hq => h q (List.mem_cons_of_mem _ hq)]
    rfl
theorem cls_depth : ∀ cs : List (List Lit), PyData.depthAll (cs.map clD) ≤ 2
  | [] => Nat.zero_le _
  | c :: cs => by
    rw [List.map_cons]
    unfold PyData.depthAll
    have := cls_depth cs
    have e : (clD c).depth ≤ 2 := by
      show PyData.depthAll (c.map litD) + 1 ≤ 2
      have := lits_depth c
      omega
    omega
theorem cls_shaped {cs : List (List Lit)} (h : ∀ c ∈ cs, LOk c) : SeqAt.shaped (.list (cs.map clD)) = true := by
  unfold SeqAt.shaped
  rw [show PyData.canLay0 (.list (cs.map clD)) = true from by unfold PyData.canLay0; exact cls_canLay h, Bool.true_and]
  refine decide_eq_true ?_
  show PyData.depthAll (cs.map clD) + 1 ≤ 64
  have := cls_depth cs
  omega
variable {S : Sto} {Q : U → Sto → Prop} {QA : List U → Sto → Prop}
/-! ### == and != of data -/
theorem y_eqD {x y : U} {a b : PyData} (hx : toDS x S = some a) (hy : toDS y S = some b) (ha : SeqAt.shaped a = true) (hb : SeqAt.shaped b = true) (hn : scalU x y = false) (h : Q (.bl (PyData.eqv a b)) S) : Y (eqU x y S) Q := by
  unfold DL.eqU eqOk
  rw [hn]
  show Y (match toDS x S, toDS y S with
    | some a, some b => guard (SeqAt.shaped a && SeqAt.shaped b) (R.ok (U.bl (PyData.eqv a b)) S)
    | _, _ => R.bad) Q
  rw [hx, hy]
  exact y_guard (by rw [ha, hb]; rfl) ⟨h⟩
theorem y_neD {x y : U} {a b : PyData} (hx : toDS x S = some a) (hy : toDS y S = some b) (ha : SeqAt.shaped a = true) (hb : SeqAt.shaped b = true) (hn : scalU x y = false) (h : Q (.bl (!PyData.eqv a b)) S) : Y (neU x y S) Q := by
  unfold DL.neU eqOk
  rw [hn]
  show Y (match toDS x S, toDS y S with
    | some a, some b => guard (SeqAt.shaped a && SeqAt.shaped b) (R.ok (U.bl (!PyData.eqv a b)) S)
    | _, _ => R.bad) Q
  rw [hx, hy]
  exact y_guard (by rw [ha, hb]; rfl) ⟨h⟩
theorem y_eqCl {a b : List Lit} (ha : LOk a) (hb : LOk b) (h : Q (.bl (decide (a = b))) S) : Y (eqU (clU a) (clU b) S) Q :=
  y_eqD (toDS_toD (cl_D a)) (toDS_toD (cl_D b)) (cl_shaped ha) (cl_shaped hb) rfl (by rw [cl_eqv]; exact h)
theorem y_neCl {a b : List Lit} (ha : LOk a) (hb : LOk b) (h : Q (.bl (!decide (a = b))) S) : Y (neU (clU a) (clU b) S) Q :=
  y_neD (toDS_toD (cl_D a)) (toDS_toD (cl_D b)) (cl_shaped ha) (cl_shaped hb) rfl (by rw [cl_eqv]; exact h)
theorem y_neLit {p q : Lit} (ha : PyData.strOk p.1 = true) (hb : PyData.strOk q.1 = true) (h : Q (.bl (!decide (p = q))) S) : Y (neU (litU p) (litU q) S) Q :=
  y_neD (toDS_toD (lit_D p)) (toDS_toD (lit_D q)) (lit_shaped ha) (lit_shaped hb) rfl (by rw [lit_eqv]; exact h)
theorem y_eqCls {a b : List (List Lit)} (ha : ∀ c ∈ a, LOk c) (hb : ∀ c ∈ b, LOk c) (h : Q (.bl (decide (a = b))) S) : Y (eqU (.lst (a.map clU)) (.lst (b.map clU)) S) Q := by
  have e : ∀ cs : List (List Lit), toDS (.lst (cs.map clU)) S = some (.list (cs.map clD)) := fun cs => by
    show (toDs (cs.map clU)).map PyData.list = _
    rw [cls_D]
    rfl
  refine y_eqD (e a) (e b) (cls_shaped ha) (cls_shaped hb) rfl ?_
  rw [show PyData.eqv (.list (a.map clD)) (.list (b.map clD)) = PyData.eqvAll (a.map clD) (b.map clD) from by unfold PyData.eqv; rfl, eqv_map cl_eqv]
  exact h
theorem y_neCls {a b : List (List Lit)} (ha : ∀ c ∈ a, LOk c) (hb : ∀ c ∈ b, LOk c) (h : Q (.bl (!decide (a = b))) S) : Y (neU (.lst (a.map clU)) (.lst (b.map clU)) S) Q := by
  have e : ∀ cs : List (List Lit), toDS (.lst (cs.map clU)) S = some (.list (cs.map clD)) := fun cs => by
    show (toDs (cs.map clU)).map PyData.list = _
    rw [cls_D]
    rfl
  refine y_neD (e a) (e b) (cls_shaped ha) (cls_shaped hb) rfl ?_
  rw [show PyData.eqv (.list (a.map clD)) (.list (b.map clD)) = PyData.eqvAll (a.map clD) (b.map clD) from by unfold PyData.eqv; rfl, eqv_map cl_eqv]
  exact h
/-! ### a clause in a list of clauses -/
theorem inB_cls {c : List Lit} {cs : List (List Lit)} (hc : LOk c) (hs : ∀ c ∈ cs, LOk c) : inB (clU c) (.lst (cs.map clU)) S = some (decide (c ∈ cs)) := by
  show (match toDS (clU c) S, toDS (.lst (cs.map clU)) S with
    | some d, some (.list ds) => if SeqAt.shaped d && SeqAt.shaped (.list ds) then some (ds.any fun z => PyData.eqv z d) else none
    | _, _ => none) = _
  rw [toDS_toD (cl_D c), show toDS (.lst (cs.map clU)) S = some (.list (cs.map clD)) from by show (toDs (cs.map clU)).map PyData.list = _; rw [cls_D]; rfl]
  dsimp only
  rw [cl_shaped hc, cls_shaped hs]
  simp only [Bool.and_self, if_true, Option.some.injEq]
  rw [List.any_map]
  have e : ((fun z => PyData.eqv z (clD c)) ∘ clD) = fun q => decide (q = c) := by
    funext q
    exact cl_eqv q c
  rw [e]
  clear hs
  induction cs with
  | nil => rfl
  | cons q ls ih =>
    rw [List.any_cons, ih]
    by_cases h1 : c = q
    · simp [h1]
    · have h3 : ¬ q = c := fun z => h1 z.symm
      by_cases h2 : c ∈ ls <;> simp [h1, h2, h3]
theorem y_inCls {c : List Lit} {cs : List (List Lit)} (hc : LOk c) (hs : ∀ c ∈ cs, LOk c) (h : Q (.bl (decide (c ∈ cs))) S) : Y (inU (clU c) (.lst (cs.map clU)) S) Q := by
  unfold inU
  rw [inB_cls hc hs]
  exact ⟨h⟩
theorem y_ninCls {c : List Lit} {cs : List (List Lit)} (hc : LOk c) (hs : ∀ c ∈ cs, LOk c) (h : Q (.bl (!decide (c ∈ cs))) S) : Y (ninU (clU c) (.lst (cs.map clU)) S) Q := by
  unfold ninU
  rw [inB_cls hc hs]
  exact ⟨h⟩
/-! ### names that rise -/
def SCl (c : List Lit) : Prop := c.Pairwise fun p q => tl p.1 < tl q.1
theorem scl_ne {p q : Lit} (h : tl p.1 < tl q.1) : p.1 ≠ q.1 := fun e => List.lt_irrefl _ (e ▸ h)
theorem scl_nodup {c : List Lit} (h : SCl c) : (c.map (·.1)).Nodup := List.pairwise_map.mpr (h.imp fun z => scl_ne z)
theorem scl_inj : ∀ {c : List Lit}, SCl c → ∀ {p q : Lit}, p ∈ c → q ∈ c → p.1 = q.1 → p = q
  | x :: c, h, p, q, hp, hq, e => by
    obtain ⟨h1, h2⟩ := List.pairwise_cons.mp h
    rcases List.mem_cons.mp hp with rfl | hp
    · rcases List.mem_cons.mp hq with rfl | hq
      · rfl
      · exact absurd e (scl_ne (h1 q hq))
    · rcases List.mem_cons.mp hq with rfl | hq
      · exact absurd e.symm (scl_ne (h1 p ‹_›))
      · exact scl_inj h2 hp hq e
theorem scl_ext : ∀ {a b : List Lit}, SCl a → SCl b → (∀ p, p ∈ a ↔ p ∈ b) → a = b
  | [], [], _, _, _ => rfl
  | [], y :: b, _, _, h => by have := (h y).mpr List.mem_cons_self; cases this
  | x :: a, [], _, _, h => by have := (h x).mp List.mem_cons_self; cases this
  | x :: a, y :: b, ha, hb, h => by
    obtain ⟨a1, a2⟩ := List.pairwise_cons.mp ha
    obtain ⟨b1, b2⟩ := List.pairwise_cons.mp hb
    have e : x = y := by
      rcases List.mem_cons.mp ((h x).mp List.mem_cons_self) with e | hx
      · exact e
      · rcases List.mem_cons.mp ((h y).mpr List.mem_cons_self) with e | hy
        · exact e.symm
        · exact absurd (List.lt_trans (a1 y hy) (b1 x hx)) (List.lt_irrefl _)
    subst e
    rw [scl_ext a2 b2 fun p => ?_]
    have n1 : x ∉ a := fun q => List.lt_irrefl _ (a1 x q)
    have n2 : x ∉ b := fun q => List.lt_irrefl _ (b1 x q)
    constructor
    · intro hp
      rcases List.mem_cons.mp ((h p).mp (List.mem_cons_of_mem _ hp)) with rfl | z
      · exact absurd hp n1
      · exact z
    · intro hp
      rcases List.mem_cons.mp ((h p).mpr (List.mem_cons_of_mem _ hp)) with rfl | z
      · exact absurd hp n2
      · exact z
theorem lt_of_le {x y : Str} (h : leT x y = true) (n : x ≠ y) : tl x < tl y := by
  by_cases q : tl x < tl y
  · exact q
  · exact absurd (leT_anti h ((leT_iff _ _).mpr q)) n
/-! ### the order of literals -/
theorem lit_toks (p : Lit) : PySem.W.keyToks (dOf (litU p)) = [.inl 1, .inr (tl p.1), .inl 1, .inl (if p.2 = true then 1 else 0), .inl 0] := by
  unfold dOf
  rw [lit_D]
  rfl
theorem leD_name {p q : Lit} (h : leD (litU p) (litU q) = true) : leT p.1 q.1 = true := by
  rw [leT_iff]
  intro hlt
  unfold leD PySem.W.dataLt at h
  rw [lit_toks, lit_toks] at h
  have e : lexLt itemOrd [.inl 1, .inr (tl q.1), .inl 1, .inl (if q.2 = true then 1 else 0), .inl 0] [.inl 1, .inr (tl p.1), .inl 1, .inl (if p.2 = true then 1 else 0), .inl 0] = true := by
    rw [show ∀ l m : List (Int ⊕ List Nat), lexLt itemOrd (.inl 1 :: l) (.inl 1 :: m) = lexLt itemOrd l m from fun l m => PySem.W.lex_pre [.inl 1] l m, PySem.W.lex_atom (fun z => by have z := Sum.inr.inj z; rw [z] at hlt; exact List.lt_irrefl (tl p.1) hlt)]
    show (decide (tl q.1 < tl p.1) || _) = true
    rw [decide_eq_true hlt]
    rfl
  rw [e] at h
  cases h
/-- the literals, sorted: names that rise, where they are unlike -/
theorem sortD_scl {ls : List Lit} (hn : (ls.map (·.1)).Nodup) : ∃ c : List Lit, sortD (ls.map litU) = c.map litU ∧ SCl c ∧ c.Perm ls := by
  obtain ⟨c, h1, h2⟩ := sortD_lits ls
  refine ⟨c, h2, ?_, h1⟩
  have pw := sortD_pw (ls.map litU)
  rw [h2, List.pairwise_map] at pw
  have nd : (c.map (·.1)).Nodup := (h1.map (·.1)).nodup_iff.mpr hn
  have nd := List.pairwise_map.mp nd
  exact (pw.and nd).imp fun z => lt_of_le (leD_name z.1) z.2
/-! ### the clause of some literals -/
def Cons (ls : List Lit) : Prop := ∀ p ∈ ls, ∀ q ∈ ls, p.1 = q.1 → p.2 = q.2
def ClOf (ls : List Lit) : Option (List Lit) → Prop
  | none => ¬ Cons ls
  | some c => SCl c ∧ ∀ p, p ∈ c ↔ p ∈ ls
theorem clOf_cons {ls c : List Lit} (h : ClOf ls (some c)) : Cons ls := fun p hp q hq e => by rw [scl_inj h.1 ((h.2 p).mpr hp) ((h.2 q).mpr hq) e]
theorem clOf_eq {ls : List Lit} : ∀ {o o' : Option (List Lit)}, ClOf ls o → ClOf ls o' → o = o'
  | none, none, _, _ => rfl
  | none, some c, h, h' => absurd (clOf_cons h') h
  | some c, none, h, h' => absurd (clOf_cons h) h'
  | some c, some c', h, h' => by rw [scl_ext h.1 h'.1 fun p => (h.2 p).trans (h'.2 p).symm]
def leN (p q : Lit) : Bool := leT p.1 q.1
def consB (ls : List Lit) : Bool := ls.all fun p => ls.all fun q => !decide (p.1 = q.1) || p.2 == q.2
theorem consB_iff (ls : List Lit) : consB ls = true ↔ Cons ls := by
  unfold consB Cons
  rw [List.all_eq_true]
  refine forall_congr' fun p => forall_congr' fun hp => ?_
  rw [List.all_eq_true]
  refine forall_congr' fun q => forall_congr' fun hq => ?_
  by_cases e : p.1 = q.1 <;> simp [e]
def nubL : List Lit → List Lit
  | [] => []
  | p :: ls => if p ∈ ls then nubL ls else p :: nubL ls
theorem nubL_mem {p : Lit} : ∀ {ls : List Lit}, p ∈ nubL ls ↔ p ∈ ls
  | [] => Iff.rfl
  | q :: ls => by
    unfold nubL
    split
    · rename_i h
      rw [nubL_mem, List.mem_cons]
      exact ⟨.inr, fun z => z.elim (fun e => by rw [e]; exact h) id⟩
    · rw [List.mem_cons, List.mem_cons, nubL_mem]
theorem nubL_nodup : ∀ ls : List Lit, (nubL ls).Nodup
  | [] => .nil
  | q :: ls => by
    unfold nubL
    split
    · exact nubL_nodup ls
    · rename_i h
      exact List.nodup_cons.mpr ⟨fun z => h (nubL_mem.mp z), nubL_nodup ls⟩
def clOf (ls : List Lit) : Option (List Lit) := if consB ls = true then some ((nubL ls).mergeSort leN) else none
theorem clOf_ok (ls : List Lit) : ClOf ls (clOf ls) := by
  unfold clOf
  by_cases h : consB ls = true
  · rw [if_pos h]
    have hc := (consB_iff ls).mp h
    have pm : ((nubL ls).mergeSort leN).Perm (nubL ls) := List.mergeSort_perm _ _
    refine ⟨?_, fun p => pm.mem_iff.trans nubL_mem⟩
    have pw : ((nubL ls).mergeSort leN).Pairwise fun p q => leN p q = true := List.pairwise_mergeSort (le := leN) (fun _ _ _ h1 h2 => leT_trans h1 h2) (fun a b => by unfold leN; simpa [Bool.or_eq_true] using leT_total a.1 b.1) _
    have nd : ((nubL ls).mergeSort leN).Nodup := pm.nodup_iff.mpr (nubL_nodup ls)
    refine List.Pairwise.imp_of_mem (fun {p q} hp hq z => ?_) (pw.and nd)
    refine lt_of_le z.1 fun e => z.2 ?_
    have := hc p (nubL_mem.mp (pm.mem_iff.mp hp)) q (nubL_mem.mp (pm.mem_iff.mp hq)) e
    exact Prod.ext e this
  · rw [if_neg h]
    exact fun z => h ((consB_iff ls).mpr z)
theorem clOf_is {ls : List Lit} {o : Option (List Lit)} (h : ClOf ls o) : clOf ls = o := clOf_eq (clOf_ok ls) h
def optU : Option (List Lit) → U
  | none => .non
  | some c => clU c
/-! ### a meeting -/
def neL (q p : Lit) : Bool := !decide (p = q)
theorem neL_iff {q p : Lit} : neL q p = true ↔ p ≠ q := by unfold neL; simp
def metC (a b : List Lit) (n : Str) : Option (List Lit) := if (n, true) ∈ a ∧ (n, false) ∈ b then clOf (a.filter (neL (n, true)) ++ b.filter (neL (n, false))) else none
/-- a dict of bools, sorted: the literals by their names -/
theorem items_z (ρ : Str → Bool) : ∀ zs : List Str, itemsU (dz zs) (zs.map (bls ρ)) = (zs.map fun z => ((z, ρ z) : Lit)).map litU
  | [] => rfl
  | z :: zs => by
    show U.tup [.str z, .bl (ρ z)] :: itemsU (dz zs) (zs.map (bls ρ)) = _
    rw [items_z ρ zs]
    rfl
theorem y_sortIt {f : FE} {d : En} {zs : List Str} {ρ : Str → Bool} (h : Y (f d S) fun u S1 => dictOf u S1 = some (dz zs, zs.map (bls ρ)) ∧ zs.Nodup ∧ ∀ c, SCl c → (∀ p : Lit, p ∈ c ↔ p.1 ∈ zs ∧ p.2 = ρ p.1) → c.length = zs.length → QA (c.map litU) S1) : Y (aSortIt f d S) QA := y_bind (h.mono fun u S1 ⟨e, hn, h1⟩ => by
  unfold sortItC
  rw [e]
  dsimp only
  rw [items_z, lits_D]
  refine y_guard (lits_sortOk _) ?_
  obtain ⟨c, h2, h3, h4⟩ := sortD_scl (ls := zs.map fun z => ((z, ρ z) : Lit)) (by rw [List.map_map]; show (zs.map fun z => z).Nodup; rw [List.map_id']; exact hn)
  rw [h2]
  refine ⟨h1 c h3 (fun p => ?_) (by rw [h4.length_eq, List.length_map])⟩
  rw [h4.mem_iff, List.mem_map]
  constructor
  · rintro ⟨z, hz, rfl⟩
    exact ⟨hz, rfl⟩
  · rintro ⟨h1, h2⟩
    exact ⟨p.1, h1, Prod.ext rfl h2.symm⟩)
/-! ### comprehensions over what is drawn from a list -/
theorem y_compFX {α : Type} {gt : U → En → Option En} {t : FT} {g : FE} {d : En} {Q : List U → Sto → Prop} (f : α → U) (p : α → Bool) (h : α → U) : ∀ (xs : List α) (acc : List U), (∀ x ∈ xs, ∃ d1, gt (f x) d = some d1 ∧ Y (t d1 S) (fun b S2 => b = p x ∧ S2 = S) ∧ (p x = true → Y (g d1 S) fun y S2 => y = h x ∧ S2 = S)) → acc.length + xs.length ≤ sizeLine → Q (acc ++ (xs.filter p).map h) S → Y (compF gt t g d (xs.map f) acc S) Q
  | [], acc, _, _, q => by rw [List.filter_nil, List.map_nil, List.append_nil] at q; exact y_cn q
  | x :: xs, acc, hs, hl, q => by
    obtain ⟨d1, e1, h1, h2⟩ := hs x List.mem_cons_self
    rw [List.length_cons] at hl
    rw [List.map_cons]
    unfold compF
    rw [e1]
    have e2 : t d1 S = .ok (p x) S := by
      obtain ⟨b, S1, e2, hb, hS⟩ := h1.ok
      rw [e2, hb, hS]
    dsimp only
    rw [e2]
    cases hp : p x with
    | true =>
      have e3 : g d1 S = .ok (h x) S := by
        obtain ⟨y, S2, e3, hy, hS⟩ := (h2 hp).ok
        rw [e3, hy, hS]
      dsimp only
      rw [e3]
      refine y_guard (decide_eq_true (by omega)) (y_compFX f p h xs _ (fun z hz => hs z (List.mem_cons_of_mem _ hz)) (by rw [List.length_append, List.length_singleton]; omega) ?_)
      rw [List.filter_cons_of_pos hp, List.map_cons] at q
      rw [List.append_assoc]
      exact q
    | false =>
      rw [List.filter_cons_of_neg (by rw [hp]; decide)] at q
      exact y_compFX f p h xs acc (fun z hz => hs z (List.mem_cons_of_mem _ hz)) (by omega) q
theorem y_compX {α : Type} {gt : U → En → Option En} {g : FE} {d : En} {Q : List U → Sto → Prop} (f : α → U) (h : α → U) (xs : List α) (acc : List U) (hs : ∀ x ∈ xs, ∃ d1, gt (f x) d = some d1 ∧ Y (g d1 S) fun y S2 => y = h x ∧ S2 = S) (hl : acc.length + xs.length ≤ sizeLine) (q : Q (acc ++ xs.map h) S) : Y (compF gt fYes g d (xs.map f) acc S) Q := by
  refine y_compFX f (fun _ => true) h xs acc (fun x hx => ?_) hl (by rw [List.filter_eq_self.mpr fun _ _ => rfl]; exact q)
  obtain ⟨d1, e1, h1⟩ := hs x hx
  exact ⟨d1, e1, ⟨rfl, rfl⟩, fun _ => h1⟩
/-! ### a dict of truths in the store -/
theorem dict_loc {f : Nat} {ks : List Key} {us : List U} (hf : S[f]? = some (.dic ks us)) : dictOf (.loc f) S = some (ks, us) := by
  unfold dictOf
  simp only [hf]
theorem ty_dict {f : Nat} {ks : List Key} {us : List U} (hf : S[f]? = some (.dic ks us)) : tyU "dict" (.loc f) S = true := dict_ty (dict_loc hf)
theorem y_get2 {f : Nat} {zs : List Str} {ρ : Str → Bool} {n : Str} {y : Bool} (hf : S[f]? = some (.dic (dz zs) (zs.map (bls ρ)))) (h : Q (.bl (if n ∈ zs then ρ n else y)) S) : Y (getM (.loc f) [.str n, .bl y] S) Q := by
  unfold getM
  rw [dict_loc hf]
  show Y (R.ok ((valU (dz zs) (zs.map (bls ρ)) (.inr n)).getD (.bl y)) S) Q
  rw [val_z]
  by_cases q : n ∈ zs
  · rw [if_pos q] at h ⊢; exact ⟨h⟩
  · rw [if_neg q] at h ⊢; exact ⟨h⟩
theorem st_zr {f : Nat} {zs : List Str} {ρ : Str → Bool} {n : Str} {y : Bool} (hf : S[f]? = some (.dic (dz zs) (zs.map (bls ρ)))) (hl : zs.length < sizeLine) : stU (.loc f) (.str n) (.bl y) S = some (S.set f (.dic (dz (addS zs n)) ((addS zs n).map (bls (fupd ρ n y))))) := by
  rw [st_of hf (by unfold dz; rw [List.length_map]; exact hl) (put_zr ρ n y zs)]
end
end DL

set_option Elab.async false
set_option linter.all false
set_option maxRecDepth 100000
namespace DL
open PySem PySem.Spec L2 TL PyProof.Rows
section
variable {S : Sto} {d : En} {Q : U → Sto → Prop} {QA : List U → Sto → Prop} {D : EU} {E : Exc → Sto → Prop}
/-! ### objects -/
theorem y_get {c f : Str} {fe : FE} (h : Y (fe d S) fun u S1 => ∃ n fs v, u = .loc n ∧ S1[n]? = some (.ins c fs) ∧ getF fs f = some v ∧ Q v S1) : Y (fGet c f fe d S) Q := y_bind (h.mono fun u S1 ⟨n, fs, v, e, e1, e2, q⟩ => by
  subst e
  show Y (match S1[n]? with
    | some (.ins c' fs) => if c' = c then oU (getF fs f) S1 else .bad
    | _ => .bad) Q
  rw [e1]
  dsimp only
  rw [if_pos rfl, e2]
  exact ⟨q⟩)
theorem w_putF {c f : Str} {fo fe : FE} (h : Y (fe d S) fun v S1 => Y (fo d S1) fun u S2 => ∃ n fs, u = .loc n ∧ S2[n]? = some (.ins c fs) ∧ fs.length < 1000 ∧ D.nx d (S2.set n (.ins c (setF f v fs)))) : WS (fPutF c f fo fe d S) D :=
  ws_toS (h.mono fun v S1 h1 => ws_toS (h1.mono fun u S2 ⟨n, fs, e, e1, hl, q⟩ => by
    subst e
    show WS (match S2[n]? with
      | some (.ins c' fs) => if c' = c ∧ fs.length < 1000 then .ok (.nx d) (S2.set n (.ins c (setF f v fs))) else .bad
      | _ => .bad) D
    rw [e1]
    dsimp only
    rw [if_pos ⟨rfl, hl⟩]
    exact ⟨q⟩))
theorem w_putFX {c f : Str} {fo : FE} {n : Nat} {g : List U → Sto → R U} {fa : FA} (h : Y (fa d S) fun us S1 => (us.length == n) = true ∧ Pst (g us S1) (fun v S1 => Y (fo d S1) fun u S2 => ∃ n fs, u = .loc n ∧ S2[n]? = some (.ins c fs) ∧ fs.length < 1000 ∧ D.nx d (S2.set n (.ins c (setF f v fs)))) (fun x S2 => D.ex x d S2)) : WS (fPutF c f fo (fCall n g fa) d S) D :=
  ws_toSx ((callX h).mono (fun v S1 h1 => ws_toS (h1.mono fun u S2 ⟨n, fs, e, e1, hl, q⟩ => by
    subst e
    show WS (match S2[n]? with
      | some (.ins c' fs) => if c' = c ∧ fs.length < 1000 then .ok (.nx d) (S2.set n (.ins c (setF f v fs))) else .bad
      | _ => .bad) D
    rw [e1]
    dsimp only
    rw [if_pos ⟨rfl, hl⟩]
    exact ⟨q⟩)) fun _ _ q => q)
theorem y_make {c : Str} {n : Nat} {g : List U → Sto → R U} {fa : FA} (h : Y (fa d S) fun us S1 => (us.length + 1 == n) = true ∧ Y (g (.loc S1.length :: us) (S1 ++ [.ins c []])) fun u S2 => u = .non ∧ Q (.loc S1.length) S2) : Y (fMake c n g fa d S) Q :=
  y_bind (h.mono fun us S1 ⟨e, h1⟩ => y_guard e (y_bind (h1.mono fun u S2 ⟨e1, q⟩ => by subst e1; exact ⟨q⟩)))
theorem makeX {c : Str} {n : Nat} {g : List U → Sto → R U} {fa : FA} (h : Y (fa d S) fun us S1 => (us.length + 1 == n) = true ∧ Pst (g (.loc S1.length :: us) (S1 ++ [.ins c []])) (fun u S2 => u = .non ∧ Q (.loc S1.length) S2) E) : Pst (fMake c n g fa d S) Q E := by
  obtain ⟨us, S1, e, hl, h1⟩ := h.ok
  unfold fMake
  rw [e]
  show Pst (guard (us.length + 1 == n) _) Q E
  rw [hl]
  show Pst ((g (.loc S1.length :: us) (S1 ++ [.ins c []])).bind _) Q E
  cases hg : g (.loc S1.length :: us) (S1 ++ [.ins c []]) with
  | ok u S2 => rw [hg] at h1; obtain ⟨e1, q⟩ := h1; subst e1; exact q
  | exc x S2 => rw [hg] at h1; exact h1
  | bad => rw [hg] at h1; exact h1.elim
theorem y_meth {c m : Str} {n : Nat} {g : List U → Sto → R U} {fo : FE} {fa : FA} (h : Y (fo d S) fun u S1 => isIns c m u S1 = true ∧ Y (fa d S1) fun us S2 => (us.length + 1 == n) = true ∧ Y (g (u :: us) S2) Q) : Y (fMeth c m n g fo fa d S) Q :=
  y_bind (h.mono fun u S1 ⟨e, h1⟩ => y_guard e (y_bind (h1.mono fun us S2 ⟨e1, q⟩ => y_guard e1 q)))
theorem ins_ok {c m : Str} {n : Nat} {fs : List (Str × U)} (h : S[n]? = some (.ins c fs)) (hm : (getF fs m).isNone = true) : isIns c m (.loc n) S = true := by
  unfold isIns
  dsimp only
  rw [h]
  dsimp only
  rw [hm, decide_eq_true rfl]
  rfl
/-! ### lists in the store -/
theorem atI_neg {α : Type} (l : List α) (c : α) : atI (l ++ [c]) (-1) = some c := by
  unfold atI
  have e : ixN (l ++ [c]).length (-1) = some l.length := by
    unfold ixN
    rw [List.length_append, List.length_singleton, if_neg (by decide), if_pos (by omega)]
    congr 1
    omega
  rw [e]
  simp
theorem ixLoc {f : Nat} {us : List U} {i : Int} {u : U} (hf : S[f]? = some (.lst us)) (h : atI us i = some u) : ixB (.loc f) (.int i) S = some u := by
  unfold ixB DL.listOf listM
  simp only [hf]
  exact h
theorem y_ixLoc {f : Nat} {us : List U} {i : Nat} {u : U} (hf : S[f]? = some (.lst us)) (h : us[i]? = some u) (q : Q u S) : Y (ixU (.loc f) (.int (i : Int)) S) Q := y_ix (ixLoc hf (atI_nat h)) q
theorem y_ixLst {us : List U} {i : Nat} {u : U} (h : us[i]? = some u) (q : Q u S) : Y (ixU (.lst us) (.int (i : Int)) S) Q := y_ix (show ixB (.lst us) (.int i) S = some u from atI_nat h) q
theorem y_ixTup {us : List U} {i : Nat} {u : U} (h : us[i]? = some u) (q : Q u S) : Y (ixU (.tup us) (.int (i : Int)) S) Q := y_ix (show ixB (.tup us) (.int i) S = some u from atI_nat h) q
theorem y_lenLc {f : Nat} {us : List U} {S : Sto} {Q : U → Sto → Prop} (hf : S[f]? = some (.lst us)) (h : Q (.int us.length) S) : Y (lenC [.loc f] S) Q := by
  have hl : lenU (.loc f) S = some us.length := by
    unfold lenU DL.listOf listM
    simp only [hf]
    try rfl
  unfold lenC
  simp only [hl]
  exact ⟨h⟩
theorem y_negI {i : Int} (h : Q (.int (-i)) S) : Y (negU (.int i) S) Q := ⟨h⟩
/-- what a list held, read alone from now on -/
theorem y_iceG {f : FE} (h : Y (f d S) fun u S1 => ∃ n us, u = .loc n ∧ S1[n]? = some (.lst us) ∧ ∀ S2, S2.length = S1.length → Fr [n] S1 S2 → Q (.lst us) S2) : Y (fIce f d S) Q :=
  y_ice (h.mono fun u S1 ⟨n, us, e, e1, q⟩ => ⟨n, us, e, e1, q _ List.length_set (Fr.set (by simp))⟩)
theorem Fr.thenNew {ms : List Nat} {S S1 S2 : Sto} {f : Nat} (a : Fr ms S S1) (b : Fr [f] S1 S2) (h : S.length ≤ f) : Fr ms S S2 :=
  ⟨Nat.le_trans a.1 b.1, fun m hm hn => (b.2 m (Nat.lt_of_lt_of_le hm a.1) (by simp; omega)).trans (a.2 m hm hn)⟩
/-! ### sets of clauses -/
theorem lit_inj {p q : Lit} (h : litU p = litU q) : p = q := by
  obtain ⟨x, a⟩ := p
  obtain ⟨y, b⟩ := q
  unfold litU at h
  cases h
  rfl
theorem lits_inj : ∀ {a b : List Lit}, a.map litU = b.map litU → a = b
  | [], [], _ => rfl
  | [], _ :: _, h => by cases h
  | _ :: _, [], h => by cases h
  | p :: a, q :: b, h => by
    rw [List.map_cons, List.map_cons] at h
    obtain ⟨h1, h2⟩ := List.cons.inj h
    rw [lit_inj h1, lits_inj h2]
theorem cl_inj {a b : List Lit} (h : clU a = clU b) : a = b := lits_inj (U.tup.inj h)
theorem lits_alike : ∀ a b : List Lit, PySem.W.alikeAll (a.map litD) (b.map litD) = true
  | [], _ => by unfold PySem.W.alikeAll; rfl
  | _ :: _, [] => by unfold PySem.W.alikeAll; rfl
  | p :: a, q :: b => by
    rw [List.map_cons, List.map_cons]
    unfold PySem.W.alikeAll
    rw [lit_alike, lits_alike a b]
    rfl
theorem cl_alike (a b : List Lit) : PySem.W.alike (clD a) (clD b) = true := by
  unfold clD PySem.W.alike
  exact lits_alike a b
def litK (p : Lit) : NestedKey := .tup [.text p.1, .num (if p.2 = true then 1 else 0)]
theorem lit_key (p : Lit) : keyD (litD p) = some (litK p) := rfl
theorem lits_key : ∀ c : List Lit, keyDs (c.map litD) = some (c.map litK)
  | [] => rfl
  | p :: c => by
    rw [List.map_cons, List.map_cons]
    unfold keyDs
    rw [lit_key, lits_key c]
theorem cl_key (c : List Lit) : keyD (clD c) = some (.tup (c.map litK)) := by
  unfold clD keyD
  rw [lits_key]
  rfl
theorem litK_depth : ∀ c : List Lit, NestedKey.depthAll (c.map litK) ≤ 2
  | [] => by show NestedKey.depthAll [] ≤ 2; unfold NestedKey.depthAll; omega
  | p :: c => by
    rw [List.map_cons]
    have h := litK_depth c
    have h1 : (litK p).depth ≤ 2 := by
      unfold litK
      simp [NestedKey.depth, NestedKey.depthAll]
    unfold NestedKey.depthAll
    omega
theorem cl_keyOk (c : List Lit) : keyOk (clD c) = true := by
  unfold keyOk
  rw [cl_key]
  refine decide_eq_true ?_
  have := litK_depth c
  unfold NestedKey.depth
  omega
theorem cls_sortOk (cs : List (List Lit)) : sortOk (cs.map clD) = true := by
  unfold sortOk
  rw [Bool.and_eq_true, Bool.and_eq_true, Bool.or_eq_true]
  refine ⟨?_, .inl ?_, ?_⟩
  · rw [List.all_map, List.all_eq_true]
    intro p _
    show (cs.map clD).all _ = true
    rw [List.all_map, List.all_eq_true]
    intro q _
    exact cl_alike p q
  · rw [List.all_map, List.all_eq_true]
    intro p _
    rfl
  · rw [List.all_map, List.all_eq_true]
    intro p _
    refine decide_eq_true ?_
    show PyData.depthAll (p.map litD) + 1 ≤ 60
    have := lits_depth p
    omega
theorem cls_keyOk (cs : List (List Lit)) : (cs.map clD).all keyOk = true := by
  rw [List.all_map, List.all_eq_true]
  intro p _
  exact cl_keyOk p
theorem sub_cls (ls : List (List Lit)) : ∀ {us : List U}, (∀ u ∈ us, u ∈ ls.map clU) → ∃ ls' : List (List Lit), us = ls'.map clU
  | [], _ => ⟨[], rfl⟩
  | u :: us, h => by
    obtain ⟨ls', h2⟩ := sub_cls ls (us := us) fun v hv => h v (List.mem_cons_of_mem _ hv)
    obtain ⟨p, hp, rfl⟩ := List.mem_map.mp (h u List.mem_cons_self)
    exact ⟨p :: ls', by rw [List.map_cons, h2]⟩
theorem y_sortSetCls {gs : List (List Lit)} (hn : gs.length ≤ 1000) (h : ∀ cs : List (List Lit), (∀ c, c ∈ cs ↔ c ∈ gs) → cs.length ≤ gs.length → QA (cs.map clU) S) : Y (sortSetA [.lst (gs.map clU)] S) QA := by
  unfold sortSetA
  cases gs with
  | nil =>
    refine y_alt (Y.of (a := []) (S := S) ?_ (h [] (fun _ => Iff.rfl) (Nat.le_refl _)))
    unfold sortSetC
    show guard (decide (([] : List Str).length < 64)) (R.ok (List.map U.str (sortT (nubT []))) S) = R.ok [] S
    rw [show nubT [] = [] from rfl, sort_nil]
    rfl
  | cons g gs =>
    refine y_altB rfl ?_
    unfold sortSetDC
    show Y (match toDs ((g :: gs).map clU) with
        | some ds => guard (sortOk ds && ds.all keyOk && decide (ds.length ≤ 1000)) (.ok (sortD (nubK ((g :: gs).map clU))) S)
        | none => .bad) QA
    rw [cls_D]
    obtain ⟨cs, h2⟩ := sub_cls (g :: gs) (us := sortD (nubK ((g :: gs).map clU))) fun u hu => nubK_sub ((sortD_perm _).mem_iff.mp hu)
    refine y_guard (by rw [cls_sortOk, cls_keyOk, List.length_map, decide_eq_true hn]; rfl) (y_ok ?_)
    have hm : ∀ c, c ∈ cs ↔ c ∈ g :: gs := fun c => by
      have e : clU c ∈ cs.map clU ↔ c ∈ cs := ⟨fun q => by
        obtain ⟨c', hc', e⟩ := List.mem_map.mp q
        rw [← cl_inj e]; exact hc', fun q => List.mem_map.mpr ⟨c, q, rfl⟩⟩
      rw [← e, ← h2, (sortD_perm _).mem_iff]
      constructor
      · intro q
        obtain ⟨c', hc', e⟩ := List.mem_map.mp (nubK_sub q)
        rw [← cl_inj e]; exact hc'
      · intro q
        obtain ⟨y, hy, ey⟩ := List.mem_map.mp (nubK_key (List.mem_map.mpr ⟨c, q, rfl⟩ : clU c ∈ (g :: gs).map clU))
        obtain ⟨c', hc', rfl⟩ := List.mem_map.mp (nubK_sub hy)
        have : clU c' = clU c := keyData_eq (cl_D c') (cl_D c) (cl_keyOk c') (cl_keyOk c) (cl_alike c' c) (by
          unfold keyV dOf at ey
          rw [cl_D, cl_D] at ey
          exact ey)
        rw [← this]
        exact hy
    rw [h2]
    refine h cs hm ?_
    have e := congrArg List.length h2
    rw [(sortD_perm _).length_eq, List.length_map] at e
    rw [← e]
    have := nubK_len ((g :: gs).map clU)
    rw [List.length_map] at this
    exact this
/-! ### steps -/
inductive CStep where
  | giv (c : List Lit)
  | met (i j : Nat) (n : Str)
  deriving DecidableEq
def CStep.u : CStep → U
  | .giv c => .tup [.str "given", clU c]
  | .met i j n => .tup [.str "met", .int (i : Int), .int (j : Int), .str n]
def CStep.givs : CStep → Option (List Lit)
  | .giv c => some c
  | .met _ _ _ => none
theorem y_rev {f : FE} (h : Y (f d S) fun u S1 => ∃ us, DL.listOf u S1 = some us ∧ QA us.reverse S1) : Y (aRev f d S) QA := y_bind (h.mono fun u S1 ⟨us, e, q⟩ => by
  rw [e]
  exact ⟨q⟩)
/-! ### list.pop(i), sorted literals -/
theorem erase_perm {α : Type} : ∀ (l : List α) (k : Nat) (h : k < l.length), (l[k] :: l.eraseIdx k).Perm l
  | x :: l, 0, _ => .refl _
  | x :: l, k + 1, h => by
    have := erase_perm l k (Nat.lt_of_succ_lt_succ h)
    exact (List.Perm.swap x _ _).trans (this.cons x)
theorem y_popP {f : Nat} {ws : List Str} {i : Int} (hf : S[f]? = some (.lst (ws.map .str))) (h0 : 0 ≤ i) (h1 : i < ws.length) (hn : ws.length ≤ 1000)
    (h : ∀ (w : Str) (ws' : List Str) S', (w :: ws').Perm ws → S'[f]? = some (.lst (ws'.map .str)) → S'.length = S.length → Fr [f] S S' → Q (.str w) S') : Y (popLM (.loc f) [.int i] S) Q := by
  obtain ⟨k, rfl⟩ := Int.eq_ofNat_of_zero_le h0
  have hk : k < ws.length := by omega
  have hix : seqIndex? (k : Int) (ws.map U.str).length = some k := by
    unfold seqIndex?
    rw [List.length_map]
    have e : ¬ ((k : Int) < 0) := by omega
    simp only [if_neg e]
    rw [if_pos (by simp; omega)]
    rfl
  unfold popLM
  simp only [hf]
  rw [hix]
  dsimp only
  rw [List.getElem?_map, List.getElem?_eq_getElem hk]
  refine y_guard (by rw [decide_eq_true (by omega), decide_eq_true (by omega)]; rfl) (y_ok ?_)
  refine h ws[k] (ws.eraseIdx k) _ (erase_perm ws k hk) ?_ List.length_set (Fr.set (by simp))
  rw [List.getElem?_set_self (List.getElem?_eq_some_iff.mp hf).1]
  congr 2
  apply List.ext_getElem?
  intro n
  simp only [List.getElem?_eraseIdx, List.getElem?_map]
  split <;> rfl
theorem y_sortedScl {u : U} {ls : List Lit} (hd : dictOf u S = none) (hl : DL.listOf u S = some (ls.map litU)) (hn : (ls.map (·.1)).Nodup) (h : ∀ c : List Lit, SCl c → c.Perm ls → QA (c.map litU) S) : Y (sortedA [u] S) QA := by
  unfold sortedA
  cases ls with
  | nil =>
    refine y_alt (Y.of (a := []) (S := S) ?_ (h [] .nil (.refl _)))
    unfold sortedC
    simp only [hd, hl]
    show guard (decide (([] : List Str).length < 64)) (R.ok (List.map U.str (sortT [])) S) = R.ok [] S
    rw [sort_nil]
    rfl
  | cons p ls =>
    refine y_altB ?_ ?_
    · unfold sortedC
      simp only [hd, hl]
      rfl
    · unfold sortedDC
      simp only [hl]
      rw [lits_D]
      obtain ⟨c, h1, h2, h3⟩ := sortD_scl hn
      exact y_guard (lits_sortOk _) (y_ok (by rw [h1]; exact h c h2 h3))
theorem dict_none {f : Nat} {us : List U} (hf : S[f]? = some (.lst us)) : dictOf (.loc f) S = none := by unfold dictOf; simp only [hf]
theorem list_loc {f : Nat} {us : List U} (hf : S[f]? = some (.lst us)) : DL.listOf (.loc f) S = some us := by unfold DL.listOf listM; simp only [hf]
/-! ### == [] -/
theorem eqv_nil (ds : List PyData) : PyData.eqv (.list ds) (.list []) = ds.isEmpty := by
  unfold PyData.eqv
  cases ds with
  | nil => unfold PyData.eqvAll; rfl
  | cons d ds => unfold PyData.eqvAll; rfl
theorem toDs_len : ∀ {us : List U} {ds : List PyData}, toDs us = some ds → ds.length = us.length
  | [], _, h => by cases h; rfl
  | u :: us, _, h => by
    unfold toDs at h
    split at h
    · rename_i e
      cases h
      rw [List.length_cons, List.length_cons, toDs_len e]
    · cases h
theorem empty_len {α β : Type} {l : List α} {m : List β} (h : l.length = m.length) : l.isEmpty = m.isEmpty := by
  cases l <;> cases m <;> first | rfl | cases h
theorem lst_nil {us : List U} {c n : Nat} (p : Pl c n (.lst us)) (hn : n ≤ 64) (S : Sto) : ∃ ds, toDS (.lst us) S = some (.list ds) ∧ SeqAt.shaped (.list ds) = true ∧ ds.isEmpty = us.isEmpty := by
  obtain ⟨d, h1, h2⟩ := Pl.shaped p hn S
  have h1' : (toDs us).map PyData.list = some d := h1
  cases e : toDs us with
  | none => rw [e] at h1'; cases h1'
  | some ds =>
    rw [e] at h1'
    cases h1'
    exact ⟨ds, h1, h2, empty_len (toDs_len e)⟩
theorem y_neLE {us : List U} {c n : Nat} (p : Pl c n (.lst us)) (hn : n ≤ 64) (h : Q (.bl (!us.isEmpty)) S) : Y (neU (.lst us) (.lst []) S) Q := by
  obtain ⟨ds, h1, h2, h3⟩ := lst_nil p hn S
  exact y_neD h1 (show toDS (.lst []) S = some (.list []) from rfl) h2 (by decide) rfl (by rw [eqv_nil, h3]; exact h)
theorem y_eqLE {us : List U} {c n : Nat} (p : Pl c n (.lst us)) (hn : n ≤ 64) (h : Q (.bl us.isEmpty) S) : Y (eqU (.lst us) (.lst []) S) Q := by
  obtain ⟨ds, h1, h2, h3⟩ := lst_nil p hn S
  exact y_eqD h1 (show toDS (.lst []) S = some (.list []) from rfl) h2 (by decide) rfl (by rw [eqv_nil, h3]; exact h)
theorem rng_eq (n : Nat) : rngU 0 1 n = (List.range n).map fun (i : Nat) => U.int (0 + (i : Int) * 1) := rfl
end
end DL

set_option Elab.async false
set_option linter.all false
set_option maxRecDepth 100000
namespace Law
open PySem PySem.Spec L2 DL
local macro_rules | `(tactic| walk_at "wp") => `(tactic| (repeat (first | with_reducible refine w_seq ?_ | with_reducible refine w_set ?_ | with_reducible refine w_expr ?_ | with_reducible refine w_ret ?_ | with_reducible refine w_retN ?_ | with_reducible refine w_store ?_ | with_reducible refine w_nop ?_ | with_reducible refine w_for ?_ | with_reducible refine w_asg ?_ | with_reducible refine w_ct ?_ | with_reducible refine w_brk ?_ | with_reducible refine y_f2 ?_ | with_reducible refine y_C ?_ | with_reducible refine y_var (by with_unfolding_all exact rfl) ?_ | with_reducible refine y_f1 ?_ | with_reducible refine y_B ?_ | with_reducible refine y_unB ?_ | with_reducible refine y_ch ?_ | with_reducible refine y_tru ?_ | with_reducible refine y_tbl ?_ | with_reducible refine y_and ?_ | with_reducible refine y_or ?_ | with_reducible refine y_not ?_ | with_reducible refine y_andV ?_ | with_reducible refine y_notV ?_ | with_reducible refine y_nil ?_ | with_reducible refine y_cons ?_ | with_reducible refine y_tup ?_ | with_reducible refine y_lst ?_ | with_reducible refine y_val ?_ | with_reducible refine y_loc ?_ | with_reducible refine y_dval ?_ | with_reducible refine y_dloc ?_ | with_reducible refine y_ice ?_ | with_reducible refine y_oNone ?_ | with_reducible refine y_oSome ?_ | with_reducible refine y_sl ?_ | with_reducible refine y_A ?_ | with_reducible refine y_call ?_ | with_reducible refine y_M ?_ | with_reducible refine y_aComp ?_ | with_reducible refine y_rng1 ?_ | with_reducible refine y_over ?_ | with_reducible refine y_addI ?_ | with_reducible refine y_subI ?_ | with_reducible refine y_ltI ?_ | with_reducible refine y_leI ?_ | with_reducible refine y_gtI ?_ | with_reducible refine y_geI ?_ | with_reducible refine y_eqI ?_ | with_reducible refine y_neI ?_ | with_reducible refine y_eqB ?_ | with_reducible refine y_neB ?_ | with_reducible refine y_eqS ?_ | with_reducible refine y_neS ?_ | with_reducible refine y_isN ?_ | with_reducible refine y_isnN ?_ | with_reducible refine y_wget ?_ | with_reducible refine y_mkx1 ?_ | with_reducible refine y_aAdd ?_ | with_reducible refine w_ln ?_ | with_reducible refine y_cn ?_ | with_reducible refine And.intro (len_ok (by with_unfolding_all exact rfl)) ?_)))
/-! ### draws -/
theorem pow18 : (10 : Int) ^ (18 : Int).toNat = 1000000000000000000 := by decide
theorem pow6 : (10 : Int) ^ (6 : Int).toNat = 1000000 := by decide
theorem primes_in {p : U} (h : p ∈ ([.int 2147483647, .int 2147483629, .int 2147483587, .int 2147483579, .int 2147483563, .int 2147483549, .int 2147483543] : List U)) : ∃ i : Int, p = .int i ∧ 2147483543 ≤ i ∧ i ≤ 2147483647 := by
  simp only [List.mem_cons, List.mem_nil_iff, or_false] at h
  rcases h with rfl | rfl | rfl | rfl | rfl | rfl | rfl <;> exact ⟨_, rfl, by decide, by decide⟩
theorem draw_step {k n : Nat} {b many c : Int} {S : Sto} (hc : 1 ≤ c) (t : Tape n b S) (hb : b ≤ 2 ^ 100) (h0 : 0 < many) (h1 : many < 2 ^ 200)
    (hrec : 1000000 < many → ∀ S1, Tape n (b + 1) S1 → Y (call k i_law_draw [.loc n, .int (many / 1000000 + 1)] S1) (Drawn1 n (b + c) (many / 1000000 + 1) S1)) :
    Y (call (k + 1) i_law_draw [.loc n, .int many] S) (Drawn1 n (b + c) many S) := by
  obtain ⟨cs, sp, lf, h, hl, hs0, hsb, hf⟩ := t
  have hn : n < S.length := (List.getElem?_eq_some_iff.mp h).1
  refine y_run ?_
  show WS (b_law_draw (call k) [some (.loc n), some (.int many), none, none, none, none, none, none, none] S) _
  unfold b_law_draw
  walk_at "wp"
  refine w_if ?_
  walk_at "wp"
  refine y_ix (ix_left h) ?_
  walk_at "wp"
  refine ite_b (fun c => ?_) (fun c => ?_)
  · have c := of_decide_eq_true c
    walk_at "wp"
    refine y_ix (ix_left h) ?_
    walk_at "wp"
    refine y_modI h0 ?_
    walk_at "wp"
    refine y_ix (ix_left h) ?_
    walk_at "wp"
    refine y_fdivI h0 (log_lt h0 h1) ?_
    walk_at "wp"
    refine ⟨_, st_left h, ?_⟩
    walk_at "wp"
    refine ⟨lf % many, rfl, Int.emod_nonneg _ (by omega), Int.emod_lt_of_pos _ h0, ?_, ?_, ?_⟩
    · exact ⟨cs, sp, lf / many, List.getElem?_set_self hn, hl, hs0, by omega, Int.ediv_nonneg hf (by omega)⟩
    · exact List.length_set
    · exact Fr.set (List.mem_singleton.mpr rfl)
  · walk_at "wp"
    refine y_ix (ix_spot h) ?_
    walk_at "wp"
    refine ⟨_, st_spot h, ?_⟩
    have h2 : (S.set n (tapeO cs (sp + 1) lf))[n]? = some (tapeO cs (sp + 1) lf) := List.getElem?_set_self hn
    have f2 : Fr [n] S (S.set n (tapeO cs (sp + 1) lf)) := Fr.set (List.mem_singleton.mpr rfl)
    have l2 : (S.set n (tapeO cs (sp + 1) lf)).length = S.length := List.length_set
    generalize S.set n (tapeO cs (sp + 1) lf) = S2 at h2 f2 l2 ⊢
    walk_at "wp"
    refine y_orC hl (show (oU (ixB (.loc n) (.str "cells") S2) S2) = _ by rw [ix_cells h2]; rfl) rfl fun ds d0 d1 => ?_
    walk_at "wp"
    refine y_lenL ?_
    rw [List.length_map]
    refine y_modI (by omega) ?_
    refine y_ixI (Int.emod_nonneg _ (by omega)) (Int.emod_lt_of_pos _ (by omega)) fun cell => ?_
    walk_at "wp"
    refine w_ifP (fun b => b = true → 1000000000000000000 ≤ cell) ?_ (fun hc => ?_) (fun _ => ?_)
    · walk_at "wp"
      refine y_powI (by decide) (by decide) (by decide) ?_
      rw [pow18]
      walk_at "wp"
      refine ite_b (fun c1 => ?_) (fun c1 => ?_)
      · walk_at "wp"
        refine y_lenL ?_
        walk_at "wp"
        exact ⟨rfl, fun _ => of_decide_eq_true c1⟩
      · exact ⟨rfl, fun h => by cases h⟩
    · have hc := hc rfl
      walk_at "wp"
      refine y_powI (by decide) (by decide) (by decide) ?_
      rw [pow18]
      walk_at "wp"
      refine y_fdivI h0 (log_lt h0 h1) ?_
      walk_at "wp"
      refine ⟨_, st_left h2, ?_⟩
      walk_at "wp"
      refine y_powI (by decide) (by decide) (by decide) ?_
      rw [pow18]
      walk_at "wp"
      refine y_modI h0 ?_
      walk_at "wp"
      refine ⟨_, rfl, Int.emod_nonneg _ (by omega), Int.emod_lt_of_pos _ h0, ?_, ?_, ?_⟩
      · exact ⟨cs, sp + 1, (cell - 1000000000000000000) / many, List.getElem?_set_self (by omega), hl, by omega, by omega, Int.ediv_nonneg (by omega) (by omega)⟩
      · rw [List.length_set]; exact l2
      · exact f2.trans (Fr.set (List.mem_singleton.mpr rfl))
    have hm0 : 0 ≤ sp % 7 := Int.emod_nonneg _ (by decide)
    have hm1 : sp % 7 < 7 := Int.emod_lt_of_pos _ (by decide)
    walk_at "wp"
    refine y_modI (by decide) ?_
    refine y_ixL hm0 hm1 fun p hp _ => ?_
    obtain ⟨p, rfl, hp0, hp1⟩ : ∃ i : Int, p = .int i ∧ 2147483543 ≤ i ∧ i ≤ 2147483647 := primes_in hp
    walk_at "wp"
    refine y_modI (by omega) ?_
    have c0 := Int.emod_nonneg cell (by omega : p ≠ 0)
    have c1 := Int.emod_lt_of_pos cell (by omega : 0 < p)
    walk_at "wp"
    with_reducible refine y_mulI ?_ ?_
    · exact mul_ok (a := 40) (b := 40) (natAbs_lt c0 (by omega)) (by decide) (by decide)
    walk_at "wp"
    with_reducible refine y_mulI ?_ ?_
    · exact mul_ok (a := 40) (b := 101) (by decide) (natAbs_lt hs0 (by omega)) (by decide)
    walk_at "wp"
    with_reducible refine y_mulI ?_ ?_
    · exact mul_ok (a := 150) (b := 101) (natAbs_lt (by omega) (by omega)) (natAbs_lt hs0 (by omega)) (by decide)
    walk_at "wp"
    with_reducible refine y_mulI ?_ ?_
    · exact mul_ok (a := 40) (b := 101) (by decide) (natAbs_lt hs0 (by omega)) (by decide)
    walk_at "wp"
    refine y_modI (by omega) ?_
    generalize (cell % p * 48271 + 7919 * sp * sp + 69621 * sp + 1) = s1
    have s0 := Int.emod_nonneg s1 (by omega : p ≠ 0)
    have s2 := Int.emod_lt_of_pos s1 (by omega : 0 < p)
    generalize s1 % p = s1 at s0 s2 ⊢
    walk_at "wp"
    with_reducible refine y_mulI ?_ ?_
    · exact mul_ok (a := 40) (b := 41) (natAbs_lt s0 (by omega)) (natAbs_lt (by omega) (by omega)) (by decide)
    walk_at "wp"
    refine y_modI (by decide) ?_
    refine y_ixL (Int.emod_nonneg _ (by decide)) (Int.emod_lt_of_pos _ (by decide)) fun q hq _ => ?_
    obtain ⟨q, rfl, hq0, hq1⟩ : ∃ i : Int, q = .int i ∧ 2147483543 ≤ i ∧ i ≤ 2147483647 := primes_in hq
    refine y_modI (by omega) ?_
    generalize s1 * (s1 + 16807) = s3
    have s4 := Int.emod_nonneg s3 (by omega : q ≠ 0)
    have s5 := Int.emod_lt_of_pos s3 (by omega : 0 < q)
    generalize s3 % q = s3 at s4 s5 ⊢
    walk_at "wp"
    with_reducible refine y_mulI ?_ ?_
    · exact mul_ok (a := 40) (b := 41) (natAbs_lt s4 (by omega)) (natAbs_lt s4 (by omega)) (by decide)
    walk_at "wp"
    refine y_modI (by omega) ?_
    walk_at "wp"
    refine y_fdivI (by decide) (by decide) ?_
    generalize s3 * s3 % p / 64 = s6
    walk_at "wp"
    refine w_if ?_
    walk_at "wp"
    refine y_powI (by decide) (by decide) (by decide) ?_
    rw [pow6]
    walk_at "wp"
    refine ite_b (fun c2 => ?_) (fun c2 => ?_)
    · have c2 := of_decide_eq_true c2
      walk_at "wp"
      refine y_powI (by decide) (by decide) (by decide) ?_
      rw [pow6]
      walk_at "wp"
      refine y_modI (by decide) ?_
      walk_at "wp"
      refine y_powI (by decide) (by decide) (by decide) ?_
      rw [pow6]
      walk_at "wp"
      refine y_powI (by decide) (by decide) (by decide) ?_
      rw [pow6]
      walk_at "wp"
      refine y_fdivI (by decide) (by decide) ?_
      walk_at "wp"
      refine ⟨rfl, ?_⟩
      refine (hrec c2 S2 ⟨cs, sp + 1, lf, h2, hl, by omega, by omega, hf⟩).mono ?_
      rintro _ S3 ⟨r, rfl, r0, r1, t3, l3, f3⟩
      with_reducible refine y_mulI ?_ ?_
      · exact mul_ok (a := 40) (b := 201) (by decide) (natAbs_lt r0 (by omega)) (by decide)
      walk_at "wp"
      refine y_modI h0 ?_
      exact ⟨_, rfl, Int.emod_nonneg _ (by omega), Int.emod_lt_of_pos _ h0, t3, l3.trans l2, f2.trans f3⟩
    · walk_at "wp"
      refine y_modI h0 ?_
      exact ⟨_, rfl, Int.emod_nonneg _ (by omega), Int.emod_lt_of_pos _ h0, ⟨cs, sp + 1, lf, h2, hl, by omega, by omega, hf⟩, l2, f2⟩
theorem draw {k n : Nat} {b many : Int} {S : Sto} (t : Tape n b S) (hb : b ≤ 2 ^ 100) (h0 : 0 < many) (h1 : many ≤ 1000000) : Y (call (k + 1) i_law_draw [.loc n, .int many] S) (Drawn1 n (b + 30) many S) :=
  draw_step (by decide) t hb h0 (by omega) fun h => absurd h (by omega)
theorem draw_great {n : Nat} : ∀ (j k : Nat) {b many : Int} {S : Sto}, Tape n b S → b + j ≤ 2 ^ 100 → 0 < many → many ≤ 1000000 ^ j + 1 → many < 2 ^ 200 → Y (call (k + j + 1) i_law_draw [.loc n, .int many] S) (Drawn1 n (b + (j + 1)) many S)
  | 0, k, b, many, S, t, hb, h0, h1, h2 => draw_step (by omega) t (by omega) h0 h2 fun h => absurd h1 (by rw [Int.pow_zero]; omega)
  | j + 1, k, b, many, S, t, hb, h0, h1, h2 => by
    refine draw_step (k := k + j + 1) (by omega) t (by omega) h0 h2 fun h S1 t1 => ?_
    have h3 : many / 1000000 ≤ 1000000 ^ j := by
      rw [Int.pow_succ] at h1
      generalize (1000000 : Int) ^ j = p at h1 ⊢
      omega
    have h5 : 0 < many / 1000000 := by omega
    have q := draw_great j k (many := many / 1000000 + 1) t1 (by omega) (by omega) (by omega) (by omega)
    rw [show b + 1 + ((j : Int) + 1) = b + (((j + 1 : Nat) : Int) + 1) by omega] at q
    exact q

end Law

set_option Elab.async false
set_option linter.all false
set_option maxRecDepth 100000
namespace Law
open PySem PySem.Spec L2 DL
local macro_rules | `(tactic| walk_at "wp") => `(tactic| (repeat (first | with_reducible refine w_seq ?_ | with_reducible refine w_set ?_ | with_reducible refine w_expr ?_ | with_reducible refine w_ret ?_ | with_reducible refine w_retN ?_ | with_reducible refine w_store ?_ | with_reducible refine w_nop ?_ | with_reducible refine w_for ?_ | with_reducible refine w_asg ?_ | with_reducible refine w_ct ?_ | with_reducible refine w_brk ?_ | with_reducible refine y_f2 ?_ | with_reducible refine y_C ?_ | with_reducible refine y_var (by with_unfolding_all exact rfl) ?_ | with_reducible refine y_f1 ?_ | with_reducible refine y_B ?_ | with_reducible refine y_unB ?_ | with_reducible refine y_ch ?_ | with_reducible refine y_tru ?_ | with_reducible refine y_tbl ?_ | with_reducible refine y_and ?_ | with_reducible refine y_or ?_ | with_reducible refine y_not ?_ | with_reducible refine y_andV ?_ | with_reducible refine y_notV ?_ | with_reducible refine y_nil ?_ | with_reducible refine y_cons ?_ | with_reducible refine y_tup ?_ | with_reducible refine y_lst ?_ | with_reducible refine y_val ?_ | with_reducible refine y_loc ?_ | with_reducible refine y_dval ?_ | with_reducible refine y_dloc ?_ | with_reducible refine y_ice ?_ | with_reducible refine y_oNone ?_ | with_reducible refine y_oSome ?_ | with_reducible refine y_sl ?_ | with_reducible refine y_A ?_ | with_reducible refine y_call ?_ | with_reducible refine y_M ?_ | with_reducible refine y_aComp ?_ | with_reducible refine y_rng1 ?_ | with_reducible refine y_over ?_ | with_reducible refine y_addI ?_ | with_reducible refine y_subI ?_ | with_reducible refine y_ltI ?_ | with_reducible refine y_leI ?_ | with_reducible refine y_gtI ?_ | with_reducible refine y_geI ?_ | with_reducible refine y_eqI ?_ | with_reducible refine y_neI ?_ | with_reducible refine y_eqB ?_ | with_reducible refine y_neB ?_ | with_reducible refine y_eqS ?_ | with_reducible refine y_neS ?_ | with_reducible refine y_isN ?_ | with_reducible refine y_isnN ?_ | with_reducible refine y_wget ?_ | with_reducible refine y_mkx1 ?_ | with_reducible refine y_aAdd ?_ | with_reducible refine w_ln ?_ | with_reducible refine y_cn ?_ | with_reducible refine And.intro (len_ok (by with_unfolding_all exact rfl)) ?_)))
/-! ### how many parts -/
def w7 : List Str := ["not", "and", "or", "gives", "is", "yes", "no"]
def lettersB (z : Str) : Bool := z.cps.toList.all fun c => inStr ⟨#[c]⟩ "abcdefghijklmnopqrstuvwxyz"
def wordB : U → Bool
  | .str z => decide (1 ≤ z.length) && decide (z.length ≤ 8) && lettersB z && !decide (z ∈ w7)
  | _ => false
theorem y_inStr {a b : Str} {S : Sto} {Q : U → Sto → Prop} (h : Q (.bl (inStr a b)) S) : Y (inU (.str a) (.str b) S) Q := ⟨h⟩
theorem y_ninT {us : List U} (ws : List Str) {w : Str} {S : Sto} {Q : U → Sto → Prop} (e : us = ws.map .str) (h : Q (.bl (!decide (w ∈ ws))) S) : Y (ninU (.str w) (.tup us) S) Q := by
  subst e
  have e : inB (.str w) (.tup (ws.map .str)) S = some (decide (w ∈ ws)) := by
    unfold inB
    dsimp only
    rw [all_flat, any_str]
    rfl
  unfold ninU
  rw [e]
  exact ⟨h⟩
theorem all_map {α : Type} {us : List α} (g : α → Bool) {S : Sto} {Q : U → Sto → Prop} (h : Q (.bl (us.all g)) S) : Y (allC [.lst (us.map fun c => U.bl (g c))] S) Q := by
  have e : (us.map g).all id = us.all g := by rw [List.all_map]; rfl
  unfold allC overL DL.listOf listM
  simp only [boolsOf_map, e]
  exact ⟨h⟩
theorem sum_map {us : List U} (g : U → Int) {S : Sto} {Q : U → Sto → Prop} (h : Q (.int (us.map g).sum) S) : Y (sumC [.lst (us.map fun c => U.int (g c))] S) Q := by
  unfold sumC overL DL.listOf listM
  simp only [intsOf_map]
  exact ⟨h⟩
theorem wordB_str (z : Str) : wordB (.str z) = (decide (1 ≤ z.length) && decide (z.length ≤ 8) && lettersB z && !decide (z ∈ w7)) := rfl
theorem is_word {k c m : Nat} {u : U} {S : Sto} (p : Pl c m u) : Y (call (k + 1) i_is_word [u] S) fun r S' => r = .bl (wordB u) ∧ S' = S := by
  refine y_run ?_
  show WS (b_is_word (call k) [some u, none] S) _
  unfold b_is_word c_LETTERS c_WORDS_OF_TEXTS c_LONGEST_WORD
  walk_at "wp"
  refine w_ifP (fun b => (b = true → wordB u = false) ∧ (b = false → ∃ z, u = .str z ∧ 1 ≤ z.length ∧ z.length ≤ 8)) ?_ (fun h => ?_) (fun h => ?_)
  · walk_at "wp"
    refine y_isS p ?_
    walk_at "wp"
    cases u with
    | str z =>
      have hz : z.length ≤ sizeLine := by cases m <;> (unfold Pl at p; exact p.2)
      show Y _ _
      walk_at "wp"
      refine y_lenZ hz ?_
      walk_at "wp"
      refine ite_b (fun c1 => ?_) (fun c1 => ?_)
      · walk_at "wp"
        refine ⟨rfl, fun h => ?_, fun h => ⟨z, rfl, ?_⟩⟩
        · rw [wordB_str]
          have : ¬ z.length ≤ 8 := fun q => by
            rw [decide_eq_true (by omega : (z.length : Int) ≤ 8)] at h
            cases h
          rw [decide_eq_false this, Bool.and_false]
          rfl
        · have h1 := of_decide_eq_true c1
          have h2 : decide ((z.length : Int) ≤ 8) = true := by
            cases q : decide ((z.length : Int) ≤ 8) with
            | true => rfl
            | false => rw [q] at h; cases h
          have h2 := of_decide_eq_true h2
          omega
      · walk_at "wp"
        refine ⟨rfl, fun _ => ?_, fun h => by cases h⟩
        rw [wordB_str]
        have := of_decide_eq_false c1
        rw [decide_eq_false (by omega : ¬ 1 ≤ z.length)]
        rfl
    | _ => exact ⟨rfl, fun _ => rfl, fun h => by cases h⟩
  · walk_at "wp"
    exact ⟨by rw [h.1 rfl], rfl⟩
  · obtain ⟨z, rfl, h1, h8⟩ := h.2 rfl
    walk_at "wp"
    refine ⟨_, rfl, ?_⟩
    refine y_compM (fun v => match v with | .str c => .bl (inStr c "abcdefghijklmnopqrstuvwxyz") | v => v) _ _ ?_ (by rw [List.length_map, sizeL, Array.length_toList]; show 0 + z.length ≤ _; omega) ?_
    · intro v hv
      obtain ⟨c, hc, rfl⟩ := List.mem_map.mp hv
      refine ⟨_, rfl, ?_⟩
      walk_at "wp"
      refine y_inStr ?_
      exact ⟨rfl, rfl⟩
    walk_at "wp"
    rw [List.nil_append, List.map_map]
    refine all_map (fun c => inStr ⟨#[c]⟩ "abcdefghijklmnopqrstuvwxyz") ?_
    walk_at "wp"
    refine ite_b (fun c1 => ?_) (fun c1 => ?_)
    · walk_at "wp"
      refine y_ninT w7 rfl ?_
      refine ⟨?_, rfl⟩
      rw [wordB_str]
      unfold lettersB
      rw [c1, decide_eq_true h1, decide_eq_true h8]
      rfl
    · refine ⟨?_, rfl⟩
      rw [wordB_str]
      unfold lettersB
      rw [c1, decide_eq_true h1, decide_eq_true h8]
      rfl

end Law

set_option Elab.async false
set_option linter.all false
set_option maxRecDepth 100000
namespace Law
open PySem PySem.Spec L2 DL
local macro_rules | `(tactic| walk_at "wp") => `(tactic| (repeat (first | with_reducible refine w_seq ?_ | with_reducible refine w_set ?_ | with_reducible refine w_expr ?_ | with_reducible refine w_ret ?_ | with_reducible refine w_retN ?_ | with_reducible refine w_store ?_ | with_reducible refine w_nop ?_ | with_reducible refine w_for ?_ | with_reducible refine w_asg ?_ | with_reducible refine w_ct ?_ | with_reducible refine w_brk ?_ | with_reducible refine y_f2 ?_ | with_reducible refine y_C ?_ | with_reducible refine y_var (by with_unfolding_all exact rfl) ?_ | with_reducible refine y_f1 ?_ | with_reducible refine y_B ?_ | with_reducible refine y_unB ?_ | with_reducible refine y_ch ?_ | with_reducible refine y_tru ?_ | with_reducible refine y_tbl ?_ | with_reducible refine y_and ?_ | with_reducible refine y_or ?_ | with_reducible refine y_not ?_ | with_reducible refine y_andV ?_ | with_reducible refine y_notV ?_ | with_reducible refine y_nil ?_ | with_reducible refine y_cons ?_ | with_reducible refine y_tup ?_ | with_reducible refine y_lst ?_ | with_reducible refine y_val ?_ | with_reducible refine y_loc ?_ | with_reducible refine y_dval ?_ | with_reducible refine y_dloc ?_ | with_reducible refine y_ice ?_ | with_reducible refine y_oNone ?_ | with_reducible refine y_oSome ?_ | with_reducible refine y_sl ?_ | with_reducible refine y_A ?_ | with_reducible refine y_call ?_ | with_reducible refine y_M ?_ | with_reducible refine y_aComp ?_ | with_reducible refine y_rng1 ?_ | with_reducible refine y_over ?_ | with_reducible refine y_addI ?_ | with_reducible refine y_subI ?_ | with_reducible refine y_ltI ?_ | with_reducible refine y_leI ?_ | with_reducible refine y_gtI ?_ | with_reducible refine y_geI ?_ | with_reducible refine y_eqI ?_ | with_reducible refine y_neI ?_ | with_reducible refine y_eqB ?_ | with_reducible refine y_neB ?_ | with_reducible refine y_eqS ?_ | with_reducible refine y_neS ?_ | with_reducible refine y_isN ?_ | with_reducible refine y_isnN ?_ | with_reducible refine y_wget ?_ | with_reducible refine y_mkx1 ?_ | with_reducible refine y_aAdd ?_ | with_reducible refine w_ln ?_ | with_reducible refine y_cn ?_ | with_reducible refine And.intro (len_ok (by with_unfolding_all exact rfl)) ?_)))
/-! ### words -/
theorem letters_low : Low "abcdefghijklmnopqrstuvwxyz" := by unfold Low; decide +kernel
theorem letters_len : (Str.length "abcdefghijklmnopqrstuvwxyz") = 26 := by decide +kernel
def ownW : List Str := ["nota", "andy", "org", "isa", "yesno", "given", "noa", "same"]
theorem own_split : Txt.split "nota andy org isa yesno given noa same" " " = ownW := by decide +kernel
theorem own_low : ∀ z ∈ ownW, Low z ∧ 1 ≤ z.length ∧ z.length ≤ 8 := by unfold Low; decide +kernel
/-- a letter of the alphabet -/
theorem y_letter {i : Int} {S : Sto} {Q : U → Sto → Prop} (h0 : 0 ≤ i) (h1 : i < 26) (h : ∀ z : Str, Low z → z.length = 1 → Q (.str z) S) : Y (ixU (.str "abcdefghijklmnopqrstuvwxyz") (.int i) S) Q :=
  y_ixS (by rw [letters_len]; decide) h0 (by rw [show (Str.cps "abcdefghijklmnopqrstuvwxyz").toList.length = 26 from by decide +kernel]; exact h1) fun c hc _ => h _ (letters_low.one hc) rfl
def WordL (z : Str) : Prop := Low z ∧ 1 ≤ z.length ∧ z.length ≤ 8
/-- the last sign -/
def lastS (z : Str) : Option Nat := (TL.tl z).getLast?
theorem last_app (x : Str) (c : Nat) : lastS (x ++ ⟨#[c]⟩) = some c := by
  unfold lastS
  rw [TL.tl_append]
  show (TL.tl x ++ [c]).getLast? = some c
  rw [List.getLast?_append]
  rfl
theorem nodup_sub {α : Type} [DecidableEq α] : ∀ {l m : List α}, l.Nodup → (∀ x ∈ l, x ∈ m) → l.length ≤ m.length
  | [], m, _, _ => Nat.zero_le _
  | x :: l, m, hn, h => by
    rw [List.nodup_cons] at hn
    have hx := h x List.mem_cons_self
    have := nodup_sub (l := l) (m := m.erase x) hn.2 fun y hy => (List.mem_erase_of_ne (fun e => hn.1 (by rw [← e]; exact hy))).mpr (h y (List.mem_cons_of_mem _ hy))
    rw [List.length_erase_of_mem hx] at this
    have hp : 0 < m.length := List.length_pos_of_mem hx
    rw [List.length_cons]
    omega
def lettersL : List Nat := TL.tl "abcdefghijklmnopqrstuvwxyz"
theorem letters_nd : (lettersL.map some).Nodup := by decide +kernel
theorem letters_26 : lettersL.length = 26 := by decide +kernel
theorem not_all {bad : List Str} (hb : bad.length < 26) : ¬ ∀ c ∈ lettersL, some c ∈ bad.map lastS := fun h => by
  have := nodup_sub (m := bad.map lastS) letters_nd fun x hx => by
    obtain ⟨c, hc, rfl⟩ := List.mem_map.mp hx
    exact h c hc
  rw [List.length_map, List.length_map, letters_26] at this
  omega
theorem words {k n m : Nat} {b : Int} {S : Sto} (t0 : Tape n b S) (hb : b + 30 * (8 + 3 * m) ≤ 2 ^ 100) (hm : m ≤ 18) :
    Y (call (k + 2) i_law_words [.loc n, .int m] S) fun u S' => ∃ ws : List Str, u = .lst (ws.map .str) ∧ ws.length = m ∧ (∀ w ∈ ws, WordL w ∧ w ∉ w7) ∧ ws.Nodup ∧ Tape n (b + 30 * (8 + 3 * m)) S' ∧ Fr [n] S S' := by
  refine y_run ?_
  show WS (b_law_words (call (k + 1)) [some (.loc n), some (.int m), none, none, none, none, none, none, none, none, none] S) _
  unfold b_law_words
  walk_at "wp"
  refine ⟨rfl, ?_⟩
  walk_at "wp"
  refine y_guard (by decide +kernel) (y_ok ?_)
  rw [own_split]
  walk_at "wp"
  refine ⟨rfl, ?_⟩
  walk_at "wp"
  refine ⟨rfl, (draw t0 (by omega) (by first | decide | omega) (by first | decide | omega)).mono ?_⟩; rintro _ S1 ⟨r1, rfl, r10, r11, t1, l1, f1⟩
  walk_at "wp"
  refine ⟨_, rfl, by omega, by omega, ?_⟩
  refine (y_comp (Q := fun us S2 => ∃ ys : List Str, us = ys.map .str ∧ (∀ y ∈ ys, Low y ∧ y.length = 1) ∧ 1 ≤ ys.length ∧ ys.length ≤ 6 ∧ Tape n (b + 210) S2 ∧ Fr [n] S S2)
    (fun us acc S2 => ∃ ys : List Str, acc = ys.map .str ∧ (∀ y ∈ ys, Low y ∧ y.length = 1) ∧ (us.length : Int) + ys.length = 1 + r1 ∧ Tape n (b + 30 + 30 * ys.length) S2 ∧ Fr [n] S S2) ?_ ?_ _ _ _ ?_).mono ?_
  · rintro u us _ S2 ⟨ys, rfl, hy, hc, t2, f2⟩
    rw [List.length_cons] at hc
    refine ⟨by rw [List.length_map, sizeL]; omega, _, rfl, ?_⟩
    refine y_ok ?_
    rw [if_pos rfl]
    walk_at "wp"
    refine ⟨rfl, (draw t2 (by omega) (by first | decide | omega) (by first | decide | omega)).mono ?_⟩; rintro _ S3 ⟨r3, rfl, r30, r31, t3, l3, f3⟩
    refine y_letter r30 r31 fun z hz1 hz2 => ?_
    refine ⟨ys ++ [z], by rw [List.map_append]; rfl, fun y h => (List.mem_append.mp h).elim (hy y) (fun h => ?_), by rw [List.length_append, List.length_singleton]; omega, t3.mono (by rw [List.length_append, List.length_singleton]; omega), f2.trans f3⟩
    rw [List.mem_singleton.mp h]
    exact ⟨hz1, hz2⟩
  · rintro _ S2 ⟨ys, rfl, hy, hc, t2, f2⟩
    exact ⟨ys, rfl, hy, by simp only [List.length_nil] at hc; omega, by simp only [List.length_nil] at hc; omega, t2.mono (by simp only [List.length_nil] at hc; omega), f2⟩
  · exact ⟨[], rfl, (by intro y h; cases h), by rw [rng_len]; simp only [List.length_nil]; omega, t1.mono (by simp only [List.length_nil]; omega), f1⟩
  rintro _ S2 ⟨ys, rfl, hy, hy1, hy6, t2, f2⟩
  walk_at "wp"
  refine y_join1 (fun y h => (hy y h).2) (by omega) ?_
  have hbl : Low (Txt.join "" ys) := Low.join fun y h => (hy y h).1
  have hbn : (Txt.join "" ys).length = ys.length := len_join fun y h => (hy y h).2
  generalize Txt.join "" ys = base at hbl hbn ⊢
  walk_at "wp"
  have f3 : Fr [n] S (S2 ++ [.lst []]) := f2.trans Fr.push
  have t3 : Tape n (b + 210) (S2 ++ [.lst []]) := t2.fr (ms := []) Fr.push (by simp)
  have hf : (S2 ++ [Ob.lst []])[S2.length]? = some (.lst []) := sto_snoc
  have hfs : S.length ≤ S2.length := f2.1
  have hfn : n < S.length := t0.lt
  generalize S2 ++ [Ob.lst []] = S3 at f3 t3 hf ⊢
  generalize S2.length = f at hf hfs ⊢
  clear hy
  walk_at "wp"
  refine ⟨_, rfl, by omega, by omega, ?_⟩
  refine w_loop (fun us d S4 => ∃ (ws : List Str) (x6 x7 x8 x9 x10 : Option U), d = [some (.loc n), some (.int m), some (.str "abcdefghijklmnopqrstuvwxyz"), some (.lst (ownW.map .str)), some (.str base), some (.loc f), x6, x7, x8, x9, x10] ∧ us.length + ws.length = m ∧ (∀ w ∈ ws, WordL w ∧ w ∉ w7) ∧ ws.Nodup ∧ Tape n (b + 210 + 90 * ws.length) S4 ∧ S4[f]? = some (.lst (ws.map .str)) ∧ Fr [n] S S4) ?_ ?_ _ _ _ ?_
  · rintro u us _ S4 ⟨ws, x6, x7, x8, x9, x10, rfl, hc, hw, hnd, t4, hf4, f4⟩
    rw [List.length_cons] at hc
    refine ⟨_, rfl, ?_⟩
    walk_at "wp"
    refine ⟨rfl, (draw t4 (by omega) (by first | decide | omega) (by first | decide | omega)).mono ?_⟩; rintro _ S5 ⟨r5, rfl, r50, r51, t5, l5, f5⟩
    refine y_letter r50 r51 fun z hz1 hz2 => ?_
    walk_at "wp"
    refine y_addS (by rw [sizeL]; omega) ?_
    walk_at "wp"
    refine y_addS (by rw [sizeL]; omega) ?_
    walk_at "wp"
    refine y_addS (by rw [sizeL]; omega) ?_
    walk_at "wp"
    refine y_addS (by rw [len_app, sizeL]; omega) ?_
    walk_at "wp"
    refine ⟨rfl, (draw t5 (by omega) (by first | decide | omega) (by first | decide | omega)).mono ?_⟩; rintro _ S6 ⟨r6, rfl, r60, r61, t6, l6, f6⟩
    refine y_ixL r60 r61 fun o ho _ => ?_
    obtain ⟨o, hoo, rfl⟩ := List.mem_map.mp ho
    have ho := own_low o hoo
    walk_at "wp"
    refine ⟨rfl, (draw t6 (by omega) (by first | decide | omega) (by first | decide | omega)).mono ?_⟩; rintro _ S7 ⟨r7, rfl, r70, r71, t7, l7, f7⟩
    refine y_ixL r70 r71 fun w0 hw0 _ => ?_
    obtain ⟨w0, rfl, hl0, hn0⟩ : ∃ z, w0 = .str z ∧ Low z ∧ 1 ≤ z.length ∧ z.length ≤ 16 := by
      simp only [List.mem_cons, List.mem_nil_iff, or_false] at hw0
      rcases hw0 with rfl | rfl | rfl | rfl | rfl | rfl
      · exact ⟨_, rfl, hbl, by omega⟩
      · exact ⟨_, rfl, hbl.app hz1, by rw [len_app]; omega⟩
      · exact ⟨_, rfl, hz1.app hbl, by rw [len_app]; omega⟩
      · exact ⟨_, rfl, hz1, by omega⟩
      · exact ⟨_, rfl, (hbl.app hz1).app hz1, by rw [len_app, len_app]; omega⟩
      · exact ⟨_, rfl, ho.1, by omega⟩
    walk_at "wp"
    refine ⟨_, rfl, ?_⟩
    refine y_slS (by rw [sizeL]; omega) ?_
    have hw1 : WordL (cutS w0 none (some ((8 : Nat) : Int))) := ⟨hl0.take 8, by rw [len_take]; omega, by rw [len_take]; omega⟩
    generalize cutS w0 none (some 8) = w1 at hw1 ⊢
    have hf7 : S7[f]? = some (.lst (ws.map .str)) := f7.get (f6.get (f5.get hf4 (by simp; omega)) (by simp; omega)) (by simp; omega)
    have t7 : Tape n (b + 210 + 90 * (ws.length + 1)) S7 := t7.mono (by omega)
    have f7 : Fr [n] S S7 := f4.trans (f5.trans (f6.trans f7))
    clear hw0 hz1 hz2 ho t6 t5 f5 f6
    walk_at "wp"
    refine ⟨_, rfl, ?_⟩
    refine w_loop (fun us d S8 => S8 = S7 ∧ ∃ (P rest : List Nat) (w : Str) (x6 x7 x8 x10 : Option U), us = rest.map (fun c => .str ⟨#[c]⟩) ∧ P ++ rest = lettersL ∧ (w ∉ ws ++ w7 ∨ ∀ c ∈ P, some c ∈ (ws ++ w7).map lastS) ∧ d = [some (.loc n), some (.int m), some (.str "abcdefghijklmnopqrstuvwxyz"), some (.lst (ownW.map .str)), some (.str base), some (.loc f), x6, x7, x8, some (.str w), x10] ∧ WordL w) ?_ ?_ _ _ _ ?_
    · rintro u us _ _ ⟨rfl, P, rest, w, x6, x7, x8, x10, e, hP, hbad, rfl, hw2⟩
      cases rest with
      | nil => cases e
      | cons c rest =>
      cases e
      have hcl : c ∈ lettersL := by rw [← hP]; simp
      have hc1 : Low ⟨#[c]⟩ := letters_low.one hcl
      have hc2 : Str.length ⟨#[c]⟩ = 1 := rfl
      have hP2 : (P ++ [c]) ++ rest = lettersL := by rw [List.append_assoc]; exact hP
      refine ⟨_, rfl, ?_⟩
      refine w_ifP (fun t => t = decide (w ∈ ws ++ w7)) ?_ (fun hq => ?_) (fun hq => ?_)
      · walk_at "wp"
        refine y_inL hf7 ?_
        walk_at "wp"
        by_cases q1 : w ∈ ws
        · rw [decide_eq_true q1]
          exact ⟨rfl, by rw [decide_eq_true (List.mem_append.mpr (.inl q1))]⟩
        · rw [decide_eq_false q1]
          show Y _ _
          walk_at "wp"
          refine y_inT w7 rfl ?_
          walk_at "wp"
          refine ⟨rfl, ?_⟩
          congr 1
          rw [List.mem_append]
          simp [q1]
      · walk_at "wp"
        refine ⟨_, rfl, ?_⟩
        refine y_slS (by rw [sizeL]; have := hw2.2.2; omega) ?_
        have h3 : Low (cutS w none (some ((7 : Nat) : Int)) ++ ⟨#[c]⟩) := (hw2.1.take 7).app hc1
        have h4 : (cutS w none (some ((7 : Nat) : Int)) ++ ⟨#[c]⟩).length = min 7 w.length + 1 := by rw [len_app, len_take, hc2]
        have h5 : (cutS w none (some ((7 : Nat) : Int))).length ≤ 7 := by rw [len_take]; omega
        walk_at "wp"
        refine y_addS (by rw [sizeL, hc2]; exact Nat.le_trans (Nat.add_le_add_right h5 1) (by decide)) ?_
        refine ⟨rfl, P ++ [c], rest, _, _, _, _, _, rfl, hP2, ?_, rfl, h3, by rw [show (cutS w none (some 7) ++ ⟨#[c]⟩).length = _ from h4]; omega, by rw [show (cutS w none (some 7) ++ ⟨#[c]⟩).length = _ from h4]; omega⟩
        by_cases q2 : (cutS w none (some 7) ++ ⟨#[c]⟩) ∈ ws ++ w7
        · refine .inr fun c' hc' => ?_
          rcases List.mem_append.mp hc' with hc' | hc'
          · rcases hbad with hbad | hbad
            · exact absurd (of_decide_eq_true hq.symm) hbad
            · exact hbad c' hc'
          · rw [List.mem_singleton.mp hc']
            exact List.mem_map.mpr ⟨_, q2, last_app _ c⟩
        · exact .inl q2
      · walk_at "wp"
        exact ⟨rfl, P ++ [c], rest, _, _, _, _, _, rfl, hP2, .inl (of_decide_eq_false hq.symm), rfl, hw2⟩
    · rintro d _ ⟨rfl, P, rest, w, x6, x7, x8, x10, e, hP, hbad, rfl, hw2⟩
      have hgood : w ∉ ws ++ w7 := by
        rcases hbad with hbad | hbad
        · exact hbad
        · cases rest with
          | cons c rest => cases e
          | nil =>
            rw [List.append_nil] at hP
            subst hP
            exact absurd hbad (not_all (by rw [List.length_append, show w7.length = 7 from rfl]; omega))
      have hg1 : w ∉ ws := fun q => hgood (List.mem_append.mpr (.inl q))
      have hg2 : w ∉ w7 := fun q => hgood (List.mem_append.mpr (.inr q))
      walk_at "wp"
      refine ⟨ty_list hf7, ?_⟩
      walk_at "wp"
      refine y_app hf7 (by rw [List.length_map, sizeL]; omega) ?_
      refine ⟨ws ++ [w], _, _, _, _, _, rfl, by rw [List.length_append, List.length_singleton]; omega, fun v hv => (List.mem_append.mp hv).elim (hw v) (fun h => by rw [List.mem_singleton.mp h]; exact ⟨hw2, hg2⟩), List.nodup_append.mpr ⟨hnd, List.pairwise_singleton _ _, fun a ha b hb e => hg1 (by rw [← List.mem_singleton.mp hb, ← e]; exact ha)⟩, ?_, ?_, f7.setNew hfs⟩
      · rw [List.length_append, List.length_singleton]
        exact t7.fr (ms := [f]) (Fr.set (by simp)) (by simp; omega)
      · rw [List.map_append]
        exact List.getElem?_set_self (List.getElem?_eq_some_iff.mp hf7).1
    · exact ⟨rfl, [], lettersL, w1, _, _, _, _, rfl, rfl, .inr fun c hc => (by cases hc), rfl, hw1⟩
  · rintro d S4 ⟨ws, x6, x7, x8, x9, x10, rfl, hc, hw, hnd, t4, hf4, f4⟩
    walk_at "wp"
    refine ⟨f, _, rfl, hf4, ws, rfl, by simp only [List.length_nil] at hc; omega, hw, hnd, ?_, f4.setNew hfs⟩
    exact (t4.fr (ms := [f]) (Fr.set (by simp)) (by simp; omega)).mono (by simp only [List.length_nil] at hc; omega)
  · exact ⟨[], none, none, none, none, none, rfl, by rw [rng_len]; simp, (by intro w h; cases h), .nil, t3.mono (by simp only [List.length_nil]; omega), hf, f3⟩

end Law

set_option Elab.async false
set_option linter.all false
set_option maxRecDepth 100000
namespace Law
open PySem PySem.Spec L2 DL
local macro_rules | `(tactic| walk_at "wp") => `(tactic| (repeat (first | with_reducible refine w_seq ?_ | with_reducible refine w_set ?_ | with_reducible refine w_expr ?_ | with_reducible refine w_ret ?_ | with_reducible refine w_retN ?_ | with_reducible refine w_store ?_ | with_reducible refine w_nop ?_ | with_reducible refine w_for ?_ | with_reducible refine w_asg ?_ | with_reducible refine w_ct ?_ | with_reducible refine w_brk ?_ | with_reducible refine y_f2 ?_ | with_reducible refine y_C ?_ | with_reducible refine y_var (by with_unfolding_all exact rfl) ?_ | with_reducible refine y_f1 ?_ | with_reducible refine y_B ?_ | with_reducible refine y_unB ?_ | with_reducible refine y_ch ?_ | with_reducible refine y_tru ?_ | with_reducible refine y_tbl ?_ | with_reducible refine y_and ?_ | with_reducible refine y_or ?_ | with_reducible refine y_not ?_ | with_reducible refine y_andV ?_ | with_reducible refine y_notV ?_ | with_reducible refine y_nil ?_ | with_reducible refine y_cons ?_ | with_reducible refine y_tup ?_ | with_reducible refine y_lst ?_ | with_reducible refine y_val ?_ | with_reducible refine y_loc ?_ | with_reducible refine y_dval ?_ | with_reducible refine y_dloc ?_ | with_reducible refine y_ice ?_ | with_reducible refine y_oNone ?_ | with_reducible refine y_oSome ?_ | with_reducible refine y_sl ?_ | with_reducible refine y_A ?_ | with_reducible refine y_call ?_ | with_reducible refine y_M ?_ | with_reducible refine y_aComp ?_ | with_reducible refine y_rng1 ?_ | with_reducible refine y_over ?_ | with_reducible refine y_addI ?_ | with_reducible refine y_subI ?_ | with_reducible refine y_ltI ?_ | with_reducible refine y_leI ?_ | with_reducible refine y_gtI ?_ | with_reducible refine y_geI ?_ | with_reducible refine y_eqI ?_ | with_reducible refine y_neI ?_ | with_reducible refine y_eqB ?_ | with_reducible refine y_neB ?_ | with_reducible refine y_eqS ?_ | with_reducible refine y_neS ?_ | with_reducible refine y_isN ?_ | with_reducible refine y_isnN ?_ | with_reducible refine y_wget ?_ | with_reducible refine y_mkx1 ?_ | with_reducible refine y_aAdd ?_ | with_reducible refine w_ln ?_ | with_reducible refine y_cn ?_ | with_reducible refine And.intro (len_ok (by with_unfolding_all exact rfl)) ?_)))
/-! ### the tape -/
theorem tape {k : Nat} (ns : List Int) (hn : ns.length ≤ 63) (S : Sto) : Y (call (k + 1) i_law_tape [.frz (ns.map .int)] S) fun u S' => u = .loc S.length ∧ Tape S.length 0 S' ∧ S'.length = S.length + 1 := by
  refine y_run ?_
  show WS (b_law_tape (call k) [some (.frz (ns.map .int))] S) _
  unfold b_law_tape
  walk_at "wp"
  refine Y.of (show dDisp _ _ _ = .ok ([.inr "cells", .inr "spot", .inr "left"], [.lst (cutU (ns.map .int) none (some 63)), .int 0, .int 0]) S from rfl) ?_
  refine ⟨rfl, ⟨ns, 0, 0, ?_, hn, by decide, by decide, by decide⟩, by simp⟩
  rw [show cutU (ns.map U.int) none (some 63) = ns.map .int from by rw [show (63 : Int) = ((63 : Nat) : Int) from rfl, cut_pre, List.take_of_length_le (by rw [List.length_map]; exact hn)]]
  exact sto_snoc

end Law

set_option Elab.async false
set_option linter.all false
set_option maxRecDepth 100000
namespace Law
open PySem PySem.Spec L2 DL
local macro_rules | `(tactic| walk_at "wp") => `(tactic| (repeat (first | with_reducible refine w_seq ?_ | with_reducible refine w_set ?_ | with_reducible refine w_expr ?_ | with_reducible refine w_ret ?_ | with_reducible refine w_retN ?_ | with_reducible refine w_store ?_ | with_reducible refine w_nop ?_ | with_reducible refine w_for ?_ | with_reducible refine w_asg ?_ | with_reducible refine w_ct ?_ | with_reducible refine w_brk ?_ | with_reducible refine y_f2 ?_ | with_reducible refine y_C ?_ | with_reducible refine y_var (by with_unfolding_all exact rfl) ?_ | with_reducible refine y_f1 ?_ | with_reducible refine y_B ?_ | with_reducible refine y_unB ?_ | with_reducible refine y_ch ?_ | with_reducible refine y_tru ?_ | with_reducible refine y_tbl ?_ | with_reducible refine y_and ?_ | with_reducible refine y_or ?_ | with_reducible refine y_not ?_ | with_reducible refine y_andV ?_ | with_reducible refine y_notV ?_ | with_reducible refine y_nil ?_ | with_reducible refine y_cons ?_ | with_reducible refine y_tup ?_ | with_reducible refine y_lst ?_ | with_reducible refine y_val ?_ | with_reducible refine y_loc ?_ | with_reducible refine y_dval ?_ | with_reducible refine y_dloc ?_ | with_reducible refine y_ice ?_ | with_reducible refine y_oNone ?_ | with_reducible refine y_oSome ?_ | with_reducible refine y_sl ?_ | with_reducible refine y_A ?_ | with_reducible refine y_call ?_ | with_reducible refine y_M ?_ | with_reducible refine y_aComp ?_ | with_reducible refine y_rng1 ?_ | with_reducible refine y_over ?_ | with_reducible refine y_addI ?_ | with_reducible refine y_subI ?_ | with_reducible refine y_ltI ?_ | with_reducible refine y_leI ?_ | with_reducible refine y_gtI ?_ | with_reducible refine y_geI ?_ | with_reducible refine y_eqI ?_ | with_reducible refine y_neI ?_ | with_reducible refine y_eqB ?_ | with_reducible refine y_neB ?_ | with_reducible refine y_eqS ?_ | with_reducible refine y_neS ?_ | with_reducible refine y_isN ?_ | with_reducible refine y_isnN ?_ | with_reducible refine y_wget ?_ | with_reducible refine y_mkx1 ?_ | with_reducible refine y_aAdd ?_ | with_reducible refine w_ln ?_ | with_reducible refine y_cn ?_ | with_reducible refine And.intro (len_ok (by with_unfolding_all exact rfl)) ?_)))
/-! ### names of clauses -/
def stripS (z : Str) : Str := ⟨(strD (TL.tl z)).toArray⟩
theorem tl_stripS (z : Str) : TL.tl (stripS z) = strD (TL.tl z) := rfl
theorem strip_of {z b : Str} (h : TL.tl b = strD (TL.tl z)) : b = stripS z := TL.ext_tl (h.trans (tl_stripS z).symm)
def nameB : U → Bool
  | .str z => decide (z.length ≤ 12) && wordB (.str (stripS z))
  | _ => false
theorem pl_str {c m : Nat} {z : Str} (p : Pl c m (.str z)) : PyData.strOk z = true ∧ z.length ≤ sizeLine := by cases m <;> (unfold Pl at p; exact p)
theorem strip_len (z : Str) : (stripS z).length ≤ z.length := by rw [len_cs, len_cs, tl_stripS]; exact strD_len _
theorem strip_ok {z : Str} (h : PyData.strOk z = true) : PyData.strOk (stripS z) = true := by
  unfold PyData.strOk at h ⊢
  rw [Array.all_eq_true_iff_forall_mem] at h ⊢
  intro x hx
  refine h x ?_
  have : x ∈ strD (TL.tl z) := by simpa [stripS] using hx
  unfold strD at this
  simpa using List.mem_of_mem_take this
theorem is_name {k c m : Nat} {u : U} {S : Sto} (p : Pl c m u) : Y (call (k + 2) i_is_name [u] S) fun r S' => r = .bl (nameB u) ∧ S' = S := by
  refine y_run ?_
  show WS (b_is_name (call (k + 1)) [some u] S) _
  unfold b_is_name c_FIGURES c_LONGEST_NAME
  walk_at "wp"
  refine w_ifP (fun b => (b = true → nameB u = false) ∧ (b = false → ∃ z, u = .str z ∧ z.length ≤ 12)) ?_ (fun h => ?_) (fun h => ?_)
  · walk_at "wp"
    refine y_isS p ?_
    walk_at "wp"
    cases u with
    | str z =>
      have hz := (pl_str p).2
      show Y _ _
      walk_at "wp"
      refine y_lenZ hz ?_
      walk_at "wp"
      refine ⟨rfl, fun h => ?_, fun h => ⟨z, rfl, ?_⟩⟩
      · have h := of_decide_eq_true h
        show (decide (z.length ≤ 12) && wordB (.str (stripS z))) = false
        rw [decide_eq_false (by omega)]
        rfl
      · have h := of_decide_eq_false h
        omega
    | _ => exact ⟨rfl, fun _ => rfl, fun h => by cases h⟩
  · walk_at "wp"
    exact ⟨by rw [h.1 rfl], rfl⟩
  · obtain ⟨z, rfl, h12⟩ := h.2 rfl
    have hz := pl_str p
    walk_at "wp"
    refine ⟨rfl, ?_⟩
    walk_at "wp"
    refine y_rstrip hz.2 fun b hb => ?_
    have hb := strip_of hb
    subst hb
    walk_at "wp"
    refine ⟨rfl, (is_word (k := k) (c := 0) (m := 0) (Pl.strs ⟨strip_ok hz.1, ?_⟩)).mono ?_⟩
    · have := strip_len z
      have := hz.2
      omega
    rintro _ _ ⟨rfl, rfl⟩
    refine ⟨?_, rfl⟩
    show _ = U.bl (decide (z.length ≤ 12) && wordB (.str (stripS z)))
    rw [decide_eq_true h12, Bool.true_and]

end Law

set_option Elab.async false
set_option linter.all false
set_option maxRecDepth 100000
namespace Law
open PySem PySem.Spec L2 DL
local macro_rules | `(tactic| walk_at "wp") => `(tactic| (repeat (first | with_reducible refine w_seq ?_ | with_reducible refine w_set ?_ | with_reducible refine w_expr ?_ | with_reducible refine w_ret ?_ | with_reducible refine w_retN ?_ | with_reducible refine w_store ?_ | with_reducible refine w_nop ?_ | with_reducible refine w_for ?_ | with_reducible refine w_asg ?_ | with_reducible refine w_ct ?_ | with_reducible refine w_brk ?_ | with_reducible refine y_f2 ?_ | with_reducible refine y_C ?_ | with_reducible refine y_var (by with_unfolding_all exact rfl) ?_ | with_reducible refine y_f1 ?_ | with_reducible refine y_B ?_ | with_reducible refine y_unB ?_ | with_reducible refine y_ch ?_ | with_reducible refine y_tru ?_ | with_reducible refine y_tbl ?_ | with_reducible refine y_and ?_ | with_reducible refine y_or ?_ | with_reducible refine y_not ?_ | with_reducible refine y_andV ?_ | with_reducible refine y_notV ?_ | with_reducible refine y_nil ?_ | with_reducible refine y_cons ?_ | with_reducible refine y_tup ?_ | with_reducible refine y_lst ?_ | with_reducible refine y_val ?_ | with_reducible refine y_loc ?_ | with_reducible refine y_dval ?_ | with_reducible refine y_dloc ?_ | with_reducible refine y_ice ?_ | with_reducible refine y_oNone ?_ | with_reducible refine y_oSome ?_ | with_reducible refine y_sl ?_ | with_reducible refine y_A ?_ | with_reducible refine y_call ?_ | with_reducible refine y_M ?_ | with_reducible refine y_aComp ?_ | with_reducible refine y_rng1 ?_ | with_reducible refine y_over ?_ | with_reducible refine y_addI ?_ | with_reducible refine y_subI ?_ | with_reducible refine y_ltI ?_ | with_reducible refine y_leI ?_ | with_reducible refine y_gtI ?_ | with_reducible refine y_geI ?_ | with_reducible refine y_eqI ?_ | with_reducible refine y_neI ?_ | with_reducible refine y_eqB ?_ | with_reducible refine y_neB ?_ | with_reducible refine y_eqS ?_ | with_reducible refine y_neS ?_ | with_reducible refine y_isN ?_ | with_reducible refine y_isnN ?_ | with_reducible refine y_wget ?_ | with_reducible refine y_mkx1 ?_ | with_reducible refine y_aAdd ?_ | with_reducible refine w_ln ?_ | with_reducible refine y_cn ?_ | with_reducible refine And.intro (len_ok (by with_unfolding_all exact rfl)) ?_)))
/-! ### texts that rise -/
def risB : List Str → Bool
  | [] => true
  | [_] => true
  | x :: y :: r => decide (TL.tl x < TL.tl y) && risB (y :: r)
theorem lt_le {x y : Str} (h : TL.tl x < TL.tl y) : leT x y = true ∧ x ≠ y := ⟨(leT_iff _ _).mpr (List.lt_asymm h), fun e => List.lt_irrefl _ (e ▸ h)⟩
theorem le_lt {x y : Str} (h : leT x y = true) (n : x ≠ y) : TL.tl x < TL.tl y := by
  by_cases q : TL.tl x < TL.tl y
  · exact q
  · exact absurd (leT_anti h ((leT_iff _ _).mpr q)) n
theorem ris_pw : ∀ {l : List Str}, risB l = true → l.Pairwise fun x y => TL.tl x < TL.tl y
  | [], _ => .nil
  | [x], _ => List.pairwise_singleton _ _
  | x :: y :: r, h => by
    unfold risB at h
    rw [Bool.and_eq_true, decide_eq_true_eq] at h
    have ih := ris_pw h.2
    refine List.pairwise_cons.mpr ⟨fun z hz => ?_, ih⟩
    rcases List.mem_cons.mp hz with rfl | hz
    · exact h.1
    · exact List.lt_trans h.1 ((List.pairwise_cons.mp ih).1 z hz)
theorem pw_ris : ∀ {l : List Str}, (l.Pairwise fun x y => TL.tl x < TL.tl y) → risB l = true
  | [], _ => rfl
  | [x], _ => rfl
  | x :: y :: r, h => by
    unfold risB
    obtain ⟨h1, h2⟩ := List.pairwise_cons.mp h
    rw [pw_ris h2, decide_eq_true (h1 y List.mem_cons_self)]
    rfl
theorem nubT_id : ∀ {l : List Str}, l.Nodup → nubT l = l
  | [], _ => rfl
  | x :: r, h => by
    obtain ⟨h1, h2⟩ := List.nodup_cons.mp h
    unfold nubT
    rw [if_neg h1, nubT_id h2]
theorem ris_sort (zs : List Str) : decide (zs = sortT (nubT zs)) = risB zs := by
  by_cases h : risB zs = true
  · have pw := ris_pw h
    have nd : zs.Nodup := pw.imp fun q => (lt_le q).2
    rw [h, nubT_id nd]
    exact decide_eq_true (pw_unique (sortT_perm zs).symm (pw.imp fun q => (lt_le q).1) (sortT_pw zs))
  · rw [Bool.not_eq_true] at h
    rw [h]
    refine decide_eq_false fun e => ?_
    have nd : zs.Nodup := by rw [e]; exact (sortT_perm _).nodup_iff.mpr (nubT_nodup zs)
    have pl : zs.Pairwise fun x y => leT x y = true := by rw [e]; exact sortT_pw _
    have : risB zs = true := pw_ris (pl.imp₂ (fun {x y} a b => le_lt a b) nd)
    rw [h] at this
    cases this
/-! ### clauses -/
def isBl : U → Bool
  | .bl _ => true
  | _ => false
def litB : U → Bool
  | .tup [a, b] => nameB a && isBl b
  | _ => false
def nmU : U → Str
  | .tup (.str z :: _) => z
  | _ => ""
def clauseB : U → Bool
  | .tup us => us.all litB && risB (us.map nmU)
  | _ => false
theorem litB_ok {u : U} (h : litB u = true) : ∃ p : Lit, u = litU p := by
  unfold litB at h
  split at h
  · rename_i a b
    rw [Bool.and_eq_true] at h
    cases b with
    | bl b =>
      cases a with
      | str z => exact ⟨(z, b), rfl⟩
      | _ => cases h.1
    | _ => cases h.2
  · cases h
theorem lits_of : ∀ {us : List U}, us.all litB = true → ∃ ls : List Lit, us = ls.map litU
  | [], _ => ⟨[], rfl⟩
  | u :: us, h => by
    rw [List.all_cons, Bool.and_eq_true] at h
    obtain ⟨p, rfl⟩ := litB_ok h.1
    obtain ⟨ls, rfl⟩ := lits_of h.2
    exact ⟨p :: ls, rfl⟩
theorem y_isB {c n : Nat} {u : U} {S : Sto} {Q : U → Sto → Prop} (p : Pl c n u) (h : Q (.bl (isBl u)) S) : Y (isiC [u, .ty "bool"] S) Q := by
  cases u with
  | non => exact ⟨h⟩
  | bl b => exact ⟨h⟩
  | int i => exact ⟨h⟩
  | str z => exact ⟨h⟩
  | tup us => exact ⟨h⟩
  | lst us => exact ⟨h⟩
  | _ => cases n <;> (unfold Pl at p; exact p.elim)
theorem is_literal {k c m : Nat} {u : U} {S : Sto} (p : Pl c m u) (hc : c ≤ 60) : Y (call (k + 3) i_is_literal [u] S) fun r S' => r = .bl (litB u) ∧ S' = S := by
  refine y_run ?_
  show WS (b_is_literal (call (k + 2)) [some u] S) _
  unfold b_is_literal
  walk_at "wp"
  refine y_isT p ?_
  walk_at "wp"
  cases u with
  | tup us =>
    show Y _ _
    obtain ⟨hl, m', rfl, pm⟩ := p.tup
    walk_at "wp"
    refine y_lenT ?_
    walk_at "wp"
    by_cases h2 : us.length = 2
    · rw [decide_eq_true (by omega : (us.length : Int) = 2)]
      refine ite_b (fun _ => ?_) (fun q => by cases q)
      match us, h2 with
      | [a, b], _ =>
        walk_at "wp"
        refine y_oU (u := a) rfl ?_
        walk_at "wp"
        refine ⟨rfl, (is_name (k := k) (pm a (by simp))).mono ?_⟩
        rintro _ _ ⟨rfl, rfl⟩
        walk_at "wp"
        refine ite_b (fun q => ?_) (fun q => ?_)
        · walk_at "wp"
          refine y_oU (u := b) rfl ?_
          walk_at "wp"
          refine y_isB (pm b (by simp)) ?_
          refine ⟨?_, rfl⟩
          show _ = U.bl (nameB a && isBl b)
          rw [q, Bool.true_and]
        · refine ⟨?_, rfl⟩
          show _ = U.bl (nameB a && isBl b)
          rw [q, Bool.false_and]
    · rw [decide_eq_false (by omega : ¬ (us.length : Int) = 2)]
      refine ite_b (fun q => by cases q) (fun _ => ?_)
      refine ⟨?_, rfl⟩
      match us, h2 with
      | [], _ => rfl
      | [_], _ => rfl
      | _ :: _ :: _ :: _, _ => rfl
  | _ => exact ⟨rfl, rfl⟩
theorem eqv_strs : ∀ xs ys : List Str, PyData.eqvAll (xs.map .str) (ys.map .str) = decide (xs = ys)
  | [], [] => rfl
  | [], y :: ys => by rw [List.map_nil, List.map_cons]; unfold PyData.eqvAll; rfl
  | x :: xs, [] => by rw [List.map_nil, List.map_cons]; unfold PyData.eqvAll; rfl
  | x :: xs, y :: ys => by
    rw [List.map_cons, List.map_cons, PySem.W.eqv_all_cons, eqv_strs xs ys]
    have : PyData.eqv (.str x) (.str y) = decide (x = y) := by
      unfold PyData.eqv
      exact str_beq x y
    rw [this]
    by_cases h1 : x = y <;> by_cases h2 : xs = ys <;> simp [h1, h2]
theorem y_eqStrs {xs ys : List Str} {S : Sto} {Q : U → Sto → Prop} (h1 : ∀ z ∈ xs, PyData.strOk z = true) (h2 : ∀ z ∈ ys, PyData.strOk z = true) (hq : Q (.bl (decide (xs = ys))) S) : Y (eqU (.lst (xs.map .str)) (.lst (ys.map .str)) S) Q := by
  unfold DL.eqU eqOk
  show Y (match toDS (.lst (xs.map .str)) S, toDS (.lst (ys.map .str)) S with
    | some a, some b => guard (SeqAt.shaped a && SeqAt.shaped b) (R.ok (.bl (PyData.eqv a b)) S)
    | _, _ => .bad) Q
  have e : ∀ zs : List Str, toDS (.lst (zs.map .str)) S = some (.list (zs.map .str)) := fun zs => by
    show (toDs (zs.map .str)).map PyData.list = _
    rw [strs_D]
    rfl
  rw [e, e]
  refine y_guard (by rw [strs_shaped h1, strs_shaped h2]; rfl) ⟨?_⟩
  show Q (.bl (PyData.eqv (.list (xs.map .str)) (.list (ys.map .str)))) S
  unfold PyData.eqv
  rw [eqv_strs]
  exact hq

end Law

set_option Elab.async false
set_option linter.all false
set_option maxRecDepth 100000
namespace Law
open PySem PySem.Spec L2 DL
local macro_rules | `(tactic| walk_at "wp") => `(tactic| (repeat (first | with_reducible refine w_seq ?_ | with_reducible refine w_set ?_ | with_reducible refine w_expr ?_ | with_reducible refine w_ret ?_ | with_reducible refine w_retN ?_ | with_reducible refine w_store ?_ | with_reducible refine w_nop ?_ | with_reducible refine w_for ?_ | with_reducible refine w_asg ?_ | with_reducible refine w_ct ?_ | with_reducible refine w_brk ?_ | with_reducible refine y_f2 ?_ | with_reducible refine y_C ?_ | with_reducible refine y_var (by with_unfolding_all exact rfl) ?_ | with_reducible refine y_f1 ?_ | with_reducible refine y_B ?_ | with_reducible refine y_unB ?_ | with_reducible refine y_ch ?_ | with_reducible refine y_tru ?_ | with_reducible refine y_tbl ?_ | with_reducible refine y_and ?_ | with_reducible refine y_or ?_ | with_reducible refine y_not ?_ | with_reducible refine y_andV ?_ | with_reducible refine y_notV ?_ | with_reducible refine y_nil ?_ | with_reducible refine y_cons ?_ | with_reducible refine y_tup ?_ | with_reducible refine y_lst ?_ | with_reducible refine y_val ?_ | with_reducible refine y_loc ?_ | with_reducible refine y_dval ?_ | with_reducible refine y_dloc ?_ | with_reducible refine y_ice ?_ | with_reducible refine y_oNone ?_ | with_reducible refine y_oSome ?_ | with_reducible refine y_sl ?_ | with_reducible refine y_A ?_ | with_reducible refine y_call ?_ | with_reducible refine y_M ?_ | with_reducible refine y_aComp ?_ | with_reducible refine y_rng1 ?_ | with_reducible refine y_over ?_ | with_reducible refine y_addI ?_ | with_reducible refine y_subI ?_ | with_reducible refine y_ltI ?_ | with_reducible refine y_leI ?_ | with_reducible refine y_gtI ?_ | with_reducible refine y_geI ?_ | with_reducible refine y_eqI ?_ | with_reducible refine y_neI ?_ | with_reducible refine y_eqB ?_ | with_reducible refine y_neB ?_ | with_reducible refine y_eqS ?_ | with_reducible refine y_neS ?_ | with_reducible refine y_isN ?_ | with_reducible refine y_isnN ?_ | with_reducible refine y_wget ?_ | with_reducible refine y_mkx1 ?_ | with_reducible refine y_aAdd ?_ | with_reducible refine w_ln ?_ | with_reducible refine y_cn ?_ | with_reducible refine And.intro (len_ok (by with_unfolding_all exact rfl)) ?_)))
theorem pl_lit {c m : Nat} {p : Lit} (h : Pl c m (litU p)) : PyData.strOk p.1 = true := by
  obtain ⟨_, m', rfl, pm⟩ := Pl.tup h
  exact (pl_str (pm (.str p.1) (by simp))).1
theorem nm_lits (ls : List Lit) : (ls.map litU).map nmU = ls.map (·.1) := by rw [List.map_map]; rfl
theorem first_map {α : Type} (ls : List α) (g : α → Str) : (ls.map fun p => U.str (g p)) = (ls.map g).map .str := by rw [List.map_map]; rfl
theorem is_clause {k c m : Nat} {u : U} {S : Sto} (p : Pl c m u) (hc : c ≤ 60) : Y (call (k + 4) i_is_clause [u] S) fun r S' => r = .bl (clauseB u) ∧ S' = S := by
  refine y_run ?_
  show WS (b_is_clause (call (k + 3)) [some u, none, none] S) _
  unfold b_is_clause
  walk_at "wp"
  refine w_ifP (fun b => (b = true → clauseB u = false) ∧ (b = false → ∃ us, u = .tup us ∧ us.all litB = true)) ?_ (fun h => ?_) (fun h => ?_)
  · walk_at "wp"
    refine y_isT p ?_
    walk_at "wp"
    cases u with
    | tup us =>
      show Y _ _
      obtain ⟨hl, m', rfl, pm⟩ := p.tup
      walk_at "wp"
      refine ⟨_, rfl, ?_⟩
      refine y_compM (fun v => .bl (litB v)) _ _ ?_ (by rw [List.length_nil, sizeL]; omega) ?_
      · intro v hv
        refine ⟨_, rfl, ?_⟩
        walk_at "wp"
        exact ⟨rfl, is_literal (k := k) (pm v hv) hc⟩
      walk_at "wp"
      rw [List.nil_append]
      refine all_map litB ?_
      walk_at "wp"
      refine ⟨rfl, fun q => ?_, fun q => ⟨us, rfl, ?_⟩⟩
      · show (us.all litB && _) = false
        rw [Bool.not_eq_true'] at q
        rw [q, Bool.false_and]
      · cases h : us.all litB with
        | true => rfl
        | false => rw [h] at q; cases q
    | _ => exact ⟨rfl, fun _ => rfl, fun h => by cases h⟩
  · walk_at "wp"
    exact ⟨by rw [h.1 rfl], rfl⟩
  · obtain ⟨us, rfl, hall⟩ := h.2 rfl
    obtain ⟨ls, rfl⟩ := lits_of hall
    obtain ⟨hl, m', rfl, pm⟩ := p.tup
    rw [List.length_map] at hl
    have ok : ∀ z ∈ ls.map (·.1), PyData.strOk z = true := fun z hz => by
      obtain ⟨q, hq, rfl⟩ := List.mem_map.mp hz
      exact pl_lit (pm (litU q) (List.mem_map.mpr ⟨q, hq, rfl⟩))
    walk_at "wp"
    refine ⟨_, rfl, ?_⟩
    refine y_compM (fun v => .str (nmU v)) _ _ ?_ (by rw [List.length_map, List.length_nil, sizeL]; omega) ?_
    · intro v hv
      obtain ⟨q, hq, rfl⟩ := List.mem_map.mp hv
      refine ⟨_, rfl, ?_⟩
      walk_at "wp"
      exact y_oU (u := .str q.1) rfl ⟨rfl, rfl⟩
    rw [List.nil_append, first_map, nm_lits]
    walk_at "wp"
    refine y_sortSetS (by rw [List.length_map]; omega) ?_
    walk_at "wp"
    refine y_eqStrs ok (fun z hz => ok z (nubT_mem.mp (sort_mem.mp hz))) ?_
    refine ⟨?_, rfl⟩
    show _ = U.bl (_ && _)
    rw [hall, nm_lits, ris_sort, Bool.true_and]

end Law

set_option Elab.async false
set_option linter.all false
set_option maxRecDepth 100000
namespace Law
open PySem PySem.Spec L2 DL
local macro_rules | `(tactic| walk_at "wp") => `(tactic| (repeat (first | with_reducible refine w_seq ?_ | with_reducible refine w_set ?_ | with_reducible refine w_expr ?_ | with_reducible refine w_ret ?_ | with_reducible refine w_retN ?_ | with_reducible refine w_store ?_ | with_reducible refine w_nop ?_ | with_reducible refine w_for ?_ | with_reducible refine w_asg ?_ | with_reducible refine w_ct ?_ | with_reducible refine w_brk ?_ | with_reducible refine y_f2 ?_ | with_reducible refine y_C ?_ | with_reducible refine y_var (by with_unfolding_all exact rfl) ?_ | with_reducible refine y_f1 ?_ | with_reducible refine y_B ?_ | with_reducible refine y_unB ?_ | with_reducible refine y_ch ?_ | with_reducible refine y_tru ?_ | with_reducible refine y_tbl ?_ | with_reducible refine y_and ?_ | with_reducible refine y_or ?_ | with_reducible refine y_not ?_ | with_reducible refine y_andV ?_ | with_reducible refine y_notV ?_ | with_reducible refine y_nil ?_ | with_reducible refine y_cons ?_ | with_reducible refine y_tup ?_ | with_reducible refine y_lst ?_ | with_reducible refine y_val ?_ | with_reducible refine y_loc ?_ | with_reducible refine y_dval ?_ | with_reducible refine y_dloc ?_ | with_reducible refine y_ice ?_ | with_reducible refine y_oNone ?_ | with_reducible refine y_oSome ?_ | with_reducible refine y_sl ?_ | with_reducible refine y_A ?_ | with_reducible refine y_call ?_ | with_reducible refine y_M ?_ | with_reducible refine y_aComp ?_ | with_reducible refine y_rng1 ?_ | with_reducible refine y_over ?_ | with_reducible refine y_addI ?_ | with_reducible refine y_subI ?_ | with_reducible refine y_ltI ?_ | with_reducible refine y_leI ?_ | with_reducible refine y_gtI ?_ | with_reducible refine y_geI ?_ | with_reducible refine y_eqI ?_ | with_reducible refine y_neI ?_ | with_reducible refine y_eqB ?_ | with_reducible refine y_neB ?_ | with_reducible refine y_eqS ?_ | with_reducible refine y_neS ?_ | with_reducible refine y_isN ?_ | with_reducible refine y_isnN ?_ | with_reducible refine y_wget ?_ | with_reducible refine y_mkx1 ?_ | with_reducible refine y_aAdd ?_ | with_reducible refine w_ln ?_ | with_reducible refine y_cn ?_ | with_reducible refine And.intro (len_ok (by with_unfolding_all exact rfl)) ?_)))
/-! ### names of clauses, drawn, unlike -/
def NmOk (z : Str) : Prop := PyData.strOk z = true ∧ 1 ≤ z.length ∧ z.length ≤ 10
theorem ok_app {x y : Str} (a : PyData.strOk x = true) (b : PyData.strOk y = true) : PyData.strOk (x ++ y) = true := by
  have ha : (TL.tl x).all (fun c => decide (c < 0x110000)) = true := by
    unfold PyData.strOk at a; simpa using a
  have hb : (TL.tl y).all (fun c => decide (c < 0x110000)) = true := by
    unfold PyData.strOk at b; simpa using b
  have hc : (TL.tl (x ++ y)).all (fun c => decide (c < 0x110000)) = true := by rw [TL.tl_append, List.all_append, ha, hb]; rfl
  unfold PyData.strOk
  simpa using hc
theorem strD_digs : ∀ (ds l : List Nat), (∀ c ∈ ds, isDig c = true) → strD (l ++ ds) = strD l
  | [], l, _ => by rw [List.append_nil]
  | d :: ds, l, h => by
    rw [show l ++ d :: ds = (l ++ [d]) ++ ds by simp, strD_digs ds _ fun c hc => h c (List.mem_cons_of_mem _ hc), strD_snoc (h d List.mem_cons_self)]
theorem strD_low {l : List Nat} (h : ∀ c ∈ l, isDig c = false) : strD l = l := by
  rcases List.eq_nil_or_concat l with rfl | ⟨l', c, rfl⟩
  · rfl
  · rw [List.concat_eq_append] at h ⊢
    exact strD_keep (h c (by simp))
theorem low_dig : ∀ c, c < 123 → 97 ≤ c → isDig c = false ∧ inStr ⟨#[c]⟩ "abcdefghijklmnopqrstuvwxyz" = true := by decide +kernel
theorem strip_word {v x : Str} (hv : Low v) (hx : ∀ c ∈ TL.tl x, isDig c = true) : stripS (v ++ x) = v := by
  refine TL.ext_tl ?_
  rw [tl_stripS, TL.tl_append, strD_digs _ _ hx]
  exact strD_low fun c hc => (low_dig c (by have := hv c hc; omega) (hv c hc).1).1
theorem low_letters {v : Str} (hv : Low v) : lettersB v = true := by
  unfold lettersB
  rw [List.all_eq_true]
  exact fun c hc => (low_dig c (by have := hv c hc; omega) (hv c hc).1).2
def NmG (z : Str) : Prop := NmOk z ∧ nameB (.str z) = true
theorem name_word {v x : Str} (hv : WordL v) (h7 : v ∉ w7) (hx : ∀ c ∈ TL.tl x, isDig c = true) (hl : x.length ≤ 2) : nameB (.str (v ++ x)) = true := by
  show (decide ((v ++ x).length ≤ 12) && wordB (.str (stripS (v ++ x)))) = true
  rw [strip_word hv.1 hx, wordB_str, low_letters hv.1, decide_eq_true hv.2.1, decide_eq_true hv.2.2, decide_eq_false h7, decide_eq_true (by rw [len_app]; have := hv.2.2; omega)]
  rfl
theorem cut_all {v : Str} (h : v.length ≤ 8) : cutS v none (some 8) = v := by
  refine TL.ext_tl ?_
  rw [show (8 : Int) = ((8 : Nat) : Int) from rfl, cs_take, List.take_of_length_le (by rw [← len_cs]; exact h)]
theorem law_fresh {k n m : Nat} {b : Int} {S : Sto} (t0 : Tape n b S) (hb : b + 30 * (8 + 4 * m) ≤ 2 ^ 100) (hm : m ≤ 18) :
    Y (call (k + 3) i_law_fresh [.loc n, .int m] S) fun u S' => ∃ ws : List Str, u = .lst (ws.map .str) ∧ ws.length = m ∧ (∀ w ∈ ws, NmG w) ∧ ws.Nodup ∧ Tape n (b + 30 * (8 + 4 * m)) S' ∧ Fr [n] S S' := by
  refine y_run ?_
  show WS (b_law_fresh (call (k + 2)) [some (.loc n), some (.int m), none, none] S) _
  unfold b_law_fresh
  walk_at "wp"
  refine ⟨rfl, (words (k := k) (m := m) t0 (by omega) hm).mono ?_⟩
  rintro _ S1 ⟨ws, rfl, hw, hww, hnd, t1, f1⟩
  walk_at "wp"
  refine ⟨_, rfl, ?_⟩
  refine (y_comp (Q := fun us S2 => ∃ ys : List Str, us = ys.map .str ∧ ys.length = m ∧ (∀ y ∈ ys, NmG y) ∧ ys.Nodup ∧ Tape n (b + 30 * (8 + 4 * m)) S2 ∧ Fr [n] S S2)
    (fun us acc S2 => ∃ ys vs : List Str, us = vs.map .str ∧ acc = ys.map .str ∧ (∀ y ∈ ys, NmG y) ∧ ys.map stripS ++ vs = ws ∧ vs.length + ys.length = m ∧ Tape n (b + 30 * (8 + 3 * m) + 30 * ys.length) S2 ∧ Fr [n] S S2) ?_ ?_ _ _ _ ⟨[], ws, rfl, rfl, (by intro y h; cases h), rfl, by rw [hw]; rfl, t1.mono (by simp only [List.length_nil]; omega), f1⟩).mono ?_
  · rintro u us _ S2 ⟨ys, vs, e, rfl, hy, hv, hc, t2, f2⟩
    cases vs with
    | nil => cases e
    | cons v vs =>
      cases e
      rw [List.length_cons] at hc
      have hv0 := hww v (by rw [← hv]; simp)
      refine ⟨by rw [List.length_map, sizeL]; omega, _, rfl, ?_⟩
      refine y_ok ?_
      rw [if_pos rfl]
      walk_at "wp"
      refine ⟨_, rfl, ?_⟩
      have hvs : v.length ≤ sizeLine := by rw [sizeL]; have := hv0.1.2.2; omega
      refine y_slS hvs ?_
      rw [cut_all hv0.1.2.2]
      have := hv0.1.2
      walk_at "wp"
      refine ⟨rfl, (draw t2 (by omega) (by decide) (by decide)).mono ?_⟩
      rintro _ S3 ⟨r3, rfl, r30, r31, t3, -, f3⟩
      refine y_ixL r30 r31 fun x hx _ => ?_
      obtain ⟨x, rfl, hx1, hx2, hx3⟩ : ∃ z : Str, x = .str z ∧ PyData.strOk z = true ∧ z.length ≤ 2 ∧ ∀ c ∈ TL.tl z, isDig c = true := by
        simp only [List.mem_cons, List.mem_nil_iff, or_false] at hx
        rcases hx with rfl | rfl | rfl | rfl | rfl | rfl <;> exact ⟨_, rfl, by decide +kernel, by decide +kernel, by decide +kernel⟩
      refine y_addS (by rw [sizeL]; omega) ?_
      refine ⟨ys ++ [v ++ x], vs, rfl, by rw [List.map_append]; rfl, fun y h => (List.mem_append.mp h).elim (hy y) (fun h => ?_), ?_, by rw [List.length_append, List.length_singleton]; omega, t3.mono (by rw [List.length_append, List.length_singleton]; omega), f2.trans f3⟩
      · rw [List.mem_singleton.mp h]
        exact ⟨⟨ok_app hv0.1.1.ok hx1, by rw [len_app]; omega, by rw [len_app]; omega⟩, name_word hv0.1 hv0.2 hx3 hx2⟩
      · rw [List.map_append, List.map_singleton, strip_word hv0.1.1 hx3, List.append_assoc]
        exact hv
  · rintro _ S2 ⟨ys, vs, e, rfl, hy, hv, hc, t2, f2⟩
    cases vs with
    | cons v vs => cases e
    | nil =>
      rw [List.append_nil] at hv
      exact ⟨ys, rfl, by simpa using hc, hy, by rw [← hv] at hnd; exact hnd.of_map _ (fun a b h e => h (by rw [e])), t2.mono (by simp only [List.length_nil] at hc; omega), f2⟩
  rintro _ S2 ⟨ys, rfl, hl, hy, hn, t2, f2⟩
  walk_at "wp"
  exact ⟨ys, rfl, hl, hy, hn, t2, f2⟩

end Law

set_option Elab.async false
set_option linter.all false
set_option maxRecDepth 100000
namespace Law
open PySem PySem.Spec L2 DL
local macro_rules | `(tactic| walk_at "wp") => `(tactic| (repeat (first | with_reducible refine w_seq ?_ | with_reducible refine w_set ?_ | with_reducible refine w_expr ?_ | with_reducible refine w_ret ?_ | with_reducible refine w_retN ?_ | with_reducible refine w_store ?_ | with_reducible refine w_nop ?_ | with_reducible refine w_for ?_ | with_reducible refine w_asg ?_ | with_reducible refine w_ct ?_ | with_reducible refine w_brk ?_ | with_reducible refine y_f2 ?_ | with_reducible refine y_C ?_ | with_reducible refine y_var (by with_unfolding_all exact rfl) ?_ | with_reducible refine y_f1 ?_ | with_reducible refine y_B ?_ | with_reducible refine y_unB ?_ | with_reducible refine y_ch ?_ | with_reducible refine y_tru ?_ | with_reducible refine y_tbl ?_ | with_reducible refine y_and ?_ | with_reducible refine y_or ?_ | with_reducible refine y_not ?_ | with_reducible refine y_andV ?_ | with_reducible refine y_notV ?_ | with_reducible refine y_nil ?_ | with_reducible refine y_cons ?_ | with_reducible refine y_tup ?_ | with_reducible refine y_lst ?_ | with_reducible refine y_val ?_ | with_reducible refine y_loc ?_ | with_reducible refine y_dval ?_ | with_reducible refine y_dloc ?_ | with_reducible refine y_ice ?_ | with_reducible refine y_oNone ?_ | with_reducible refine y_oSome ?_ | with_reducible refine y_sl ?_ | with_reducible refine y_A ?_ | with_reducible refine y_call ?_ | with_reducible refine y_M ?_ | with_reducible refine y_aComp ?_ | with_reducible refine y_rng1 ?_ | with_reducible refine y_over ?_ | with_reducible refine y_addI ?_ | with_reducible refine y_subI ?_ | with_reducible refine y_ltI ?_ | with_reducible refine y_leI ?_ | with_reducible refine y_gtI ?_ | with_reducible refine y_geI ?_ | with_reducible refine y_eqI ?_ | with_reducible refine y_neI ?_ | with_reducible refine y_eqB ?_ | with_reducible refine y_neB ?_ | with_reducible refine y_eqS ?_ | with_reducible refine y_neS ?_ | with_reducible refine y_isN ?_ | with_reducible refine y_isnN ?_ | with_reducible refine y_wget ?_ | with_reducible refine y_mkx1 ?_ | with_reducible refine y_aAdd ?_ | with_reducible refine w_ln ?_ | with_reducible refine y_cn ?_ | with_reducible refine And.intro (len_ok (by with_unfolding_all exact rfl)) ?_)))
/-! ### the clause of some literals, meetings -/
theorem clause_of {k : Nat} {ls : List Lit} {S : Sto} (hl : ls.length ≤ 100000) :
    Y (call (k + 1) i_clause_of [.lst (ls.map litU)] S) fun u S' => u = optU (clOf ls) ∧ Fr [] S S' := by
  refine y_run ?_
  show WS (b_clause_of (call k) [some (.lst (ls.map litU)), none, none, none] S) _
  unfold b_clause_of
  refine w_seq (w_set (y_dlocG (y_ok fun f S1 ef h1 l1 f1 => ?_)))
  walk_at "wp"
  refine ⟨_, rfl, ?_⟩
  refine w_loop (fun us d S2 => ∃ (dn rest : List Lit) (zs : List Str) (ρ : Str → Bool) (x2 x3 : Option U), us = rest.map litU ∧ dn ++ rest = ls ∧ d = [some (.lst (ls.map litU)), some (.loc f), x2, x3] ∧ S2[f]? = some (.dic (dz zs) (zs.map (bls ρ))) ∧ zs.Nodup ∧ (∀ p : Lit, p ∈ dn ↔ p.1 ∈ zs ∧ p.2 = ρ p.1) ∧ zs.length ≤ dn.length ∧ Fr [] S S2) ?_ ?_ _ _ _
    ⟨[], ls, [], fun _ => true, _, _, rfl, rfl, rfl, h1, .nil, fun p => by simp, Nat.le_refl _, f1⟩
  · rintro u us _ S2 ⟨dn, rest, zs, ρ, x2, x3, e, hd, rfl, h2, nd, hm, hz, f2⟩
    cases rest with
    | nil => cases e
    | cons p rest =>
    cases e
    have hlen := congrArg List.length hd
    rw [List.length_append, List.length_cons] at hlen
    refine ⟨_, rfl, ?_⟩
    refine w_seq (w_if ?_)
    walk_at "wp"
    refine ⟨ty_dict h2, ?_⟩
    walk_at "wp"
    refine y_get2 h2 ?_
    walk_at "wp"
    refine ite_b (fun c => ?_) (fun c => ?_)
    · walk_at "wp"
      refine ⟨?_, f2⟩
      have hn : ¬ Cons ls := fun z => by
        by_cases q : p.1 ∈ zs
        · rw [if_pos q] at c
          have h3 : ((p.1, ρ p.1) : Lit) ∈ dn := (hm _).mpr ⟨q, rfl⟩
          have := z (p.1, ρ p.1) (by rw [← hd]; exact List.mem_append.mpr (.inl h3)) p (by rw [← hd]; simp) rfl
          have this : ρ p.1 = p.2 := this
          rw [this, beq_self_eq_true] at c
          cases c
        · rw [if_neg q, beq_self_eq_true] at c
          cases c
      rw [clOf_is (o := none) hn]
      rfl
    · walk_at "wp"
      refine ⟨_, st_zr h2 (by rw [sizeL]; omega), ?_⟩
      refine ⟨dn ++ [p], rest, addS zs p.1, fupd ρ p.1 p.2, _, _, rfl, by rw [List.append_assoc]; exact hd, rfl, List.getElem?_set_self (List.getElem?_eq_some_iff.mp h2).1, addS_nodup nd, fun q => ?_, ?_, f2.setNew (by rw [ef]; exact Nat.le_refl _)⟩
      · have c : (if p.1 ∈ zs then ρ p.1 else p.2) = p.2 := by
          rw [Bool.not_eq_false'] at c
          exact beq_iff_eq.mp c
        rw [List.mem_append, List.mem_singleton, hm q, addS_mem]
        unfold fupd
        by_cases e : q.1 = p.1
        · rw [if_pos e]
          constructor
          · rintro (⟨z1, z2⟩ | rfl)
            · refine ⟨.inr e, ?_⟩
              rw [e] at z1 z2
              rw [if_pos z1] at c
              rw [z2, c]
            · exact ⟨.inr rfl, rfl⟩
          · rintro ⟨-, z2⟩
            exact .inr (Prod.ext e z2)
        · rw [if_neg e]
          constructor
          · rintro (⟨z1, z2⟩ | rfl)
            · exact ⟨.inl z1, z2⟩
            · exact absurd rfl e
          · rintro ⟨z1 | z1, z2⟩
            · exact .inl ⟨z1, z2⟩
            · exact absurd z1 e
      · have := addS_len (zs := zs) (k := p.1)
        rw [List.length_append, List.length_singleton]
        omega
  · rintro d S2 ⟨dn, rest, zs, ρ, x2, x3, e, hd, rfl, h2, nd, hm, hz, f2⟩
    cases rest with
    | cons p rest => cases e
    | nil =>
    rw [List.append_nil] at hd
    subst hd
    walk_at "wp"
    refine y_sortIt (zs := zs) (ρ := ρ) ?_
    walk_at "wp"
    refine ⟨dict_loc h2, nd, fun c hs hc _ => ?_⟩
    walk_at "wp"
    refine Y.of (show tupleC [.lst (c.map litU)] S2 = .ok (clU c) S2 from rfl) ?_
    refine ⟨?_, f2⟩
    rw [clOf_is (o := some c) ⟨hs, fun p => (hc p).trans (hm p).symm⟩]
    rfl
theorem met_clause {k : Nat} {a b : List Lit} {n : Str} {S : Sto} (ha : LOk a) (hb : LOk b) (hn : PyData.strOk n = true) (la : a.length ≤ 1000) (lb : b.length ≤ 1000) :
    Y (call (k + 2) i_met_clause [clU a, clU b, .str n] S) fun u S' => u = optU (metC a b n) ∧ Fr [] S S' := by
  refine y_run ?_
  show WS (b_met_clause (call (k + 1)) [some (.tup (a.map litU)), some (.tup (b.map litU)), some (.str n), none, none] S) _
  unfold b_met_clause
  refine w_seq (w_ifP (fun t => t = !(decide ((n, true) ∈ a ∧ (n, false) ∈ b))) ?_ (fun c => ?_) (fun c => ?_))
  · walk_at "wp"
    refine y_ninLits (p := (n, true)) hn ha ?_
    walk_at "wp"
    by_cases q : (n, true) ∈ a
    · rw [decide_eq_true q]
      show Y _ _
      walk_at "wp"
      refine y_ninLits (p := (n, false)) hn hb ?_
      walk_at "wp"
      refine ⟨rfl, ?_⟩
      simp [q]
    · rw [decide_eq_false q]
      exact ⟨rfl, by simp [q]⟩
  · walk_at "wp"
    refine ⟨?_, Fr.refl _ _⟩
    unfold metC
    rw [if_neg (by simpa only [Bool.not_eq_true', decide_eq_false_iff_not, eq_comm (a := true)] using c)]
    rfl
  · have c : (n, true) ∈ a ∧ (n, false) ∈ b := by simpa using c
    walk_at "wp"
    refine ⟨_, rfl, ?_⟩
    refine y_compFX litU (neL (n, true)) litU a [] (fun p hp => ?_) (by rw [List.length_nil, sizeL]; omega) ?_
    · refine ⟨_, rfl, ?_, fun _ => ?_⟩
      · refine y_B ?_
        walk_at "wp"
        refine y_neLit (q := (n, true)) (ha p hp) hn ?_
        walk_at "wp"
        exact ⟨rfl, rfl⟩
      · walk_at "wp"
        exact ⟨rfl, rfl⟩
    rw [List.nil_append]
    refine w_retX ?_
    walk_at "wp"
    refine ⟨_, rfl, ?_⟩
    refine y_compFX litU (neL (n, false)) litU b [] (fun p hp => ?_) (by rw [List.length_nil, sizeL]; omega) ?_
    · refine ⟨_, rfl, ?_, fun _ => ?_⟩
      · refine y_B ?_
        walk_at "wp"
        refine y_neLit (q := (n, false)) (hb p hp) hn ?_
        walk_at "wp"
        exact ⟨rfl, rfl⟩
      · walk_at "wp"
        exact ⟨rfl, rfl⟩
    rw [List.nil_append]
    have l1 := List.length_filter_le (neL (n, true)) a
    have l2 := List.length_filter_le (neL (n, false)) b
    refine y_addL (by rw [List.length_map, List.length_map, sizeL]; omega) ?_
    walk_at "wp"
    rw [← List.map_append]
    refine ⟨rfl, (clause_of (by rw [List.length_append]; omega)).pst ?_⟩
    rintro _ S1 ⟨rfl, f1⟩
    refine ⟨?_, f1⟩
    unfold metC
    rw [if_pos c]
theorem is_number {k : Nat} {i m : Int} {S : Sto} : Y (call (k + 1) i_is_number [.int i, .int m] S) fun u S' => u = .bl (decide (0 ≤ i ∧ i < m)) ∧ S' = S := by
  refine y_run ?_
  show WS (b_is_number (call k) [some (.int i), some (.int m)] S) _
  unfold b_is_number
  walk_at "wp"
  refine Y.of (show isiC [.int i, .ty "int"] S = .ok (.bl true) S from rfl) ?_
  refine y_tbl ?_
  refine ite_b (fun _ => ?_) (fun q => by cases q)
  walk_at "wp"
  refine Y.of (show isiC [.int i, .ty "bool"] S = .ok (.bl false) S from rfl) ?_
  refine y_tbl ?_
  refine y_tbl ?_
  refine ite_b (fun _ => ?_) (fun q => by cases q)
  walk_at "wp"
  refine ite_b (fun q => ?_) (fun q => ?_)
  · walk_at "wp"
    have q := of_decide_eq_true q
    exact ⟨by simp [q], rfl⟩
  · have q := of_decide_eq_false q
    exact ⟨by simp [q], rfl⟩
theorem is_part {ls ms : List Lit} (k : Nat) (hl : ls.length ≤ 1000) (h1 : LOk ls) (h2 : LOk ms) {S : Sto} :
    Y (call (k + 1) i_is_part [clU ls, clU ms] S) fun u S' => u = .bl (ls.all fun p => decide (p ∈ ms)) ∧ S' = S := by
  refine y_run ?_
  show WS (b_is_part (call k) [some (.tup (ls.map litU)), some (.tup (ms.map litU)), none] S) _
  unfold b_is_part
  walk_at "wp"
  refine ⟨_, rfl, ?_⟩
  refine y_compX litU (fun p => .bl (decide (p ∈ ms))) ls [] (fun p hp => ?_) (by rw [List.length_nil, sizeL]; omega) ?_
  · refine ⟨_, rfl, ?_⟩
    walk_at "wp"
    refine y_inLits (h1 p hp) h2 ?_
    exact ⟨rfl, rfl⟩
  walk_at "wp"
  rw [List.nil_append]
  refine all_map (fun p : Lit => decide (p ∈ ms)) ?_
  exact ⟨rfl, rfl⟩

end Law

set_option Elab.async false
set_option linter.all false
set_option maxRecDepth 100000
namespace Law
open PySem PySem.Spec L2 DL
local macro_rules | `(tactic| walk_at "wp") => `(tactic| (repeat (first | with_reducible refine w_seq ?_ | with_reducible refine w_set ?_ | with_reducible refine w_expr ?_ | with_reducible refine w_ret ?_ | with_reducible refine w_retN ?_ | with_reducible refine w_store ?_ | with_reducible refine w_nop ?_ | with_reducible refine w_for ?_ | with_reducible refine w_asg ?_ | with_reducible refine w_ct ?_ | with_reducible refine w_brk ?_ | with_reducible refine y_f2 ?_ | with_reducible refine y_C ?_ | with_reducible refine y_var (by with_unfolding_all exact rfl) ?_ | with_reducible refine y_f1 ?_ | with_reducible refine y_B ?_ | with_reducible refine y_unB ?_ | with_reducible refine y_ch ?_ | with_reducible refine y_tru ?_ | with_reducible refine y_tbl ?_ | with_reducible refine y_and ?_ | with_reducible refine y_or ?_ | with_reducible refine y_not ?_ | with_reducible refine y_andV ?_ | with_reducible refine y_notV ?_ | with_reducible refine y_nil ?_ | with_reducible refine y_cons ?_ | with_reducible refine y_tup ?_ | with_reducible refine y_lst ?_ | with_reducible refine y_val ?_ | with_reducible refine y_loc ?_ | with_reducible refine y_dval ?_ | with_reducible refine y_dloc ?_ | with_reducible refine y_ice ?_ | with_reducible refine y_oNone ?_ | with_reducible refine y_oSome ?_ | with_reducible refine y_sl ?_ | with_reducible refine y_A ?_ | with_reducible refine y_call ?_ | with_reducible refine y_M ?_ | with_reducible refine y_aComp ?_ | with_reducible refine y_rng1 ?_ | with_reducible refine y_over ?_ | with_reducible refine y_addI ?_ | with_reducible refine y_subI ?_ | with_reducible refine y_ltI ?_ | with_reducible refine y_leI ?_ | with_reducible refine y_gtI ?_ | with_reducible refine y_geI ?_ | with_reducible refine y_eqI ?_ | with_reducible refine y_neI ?_ | with_reducible refine y_eqB ?_ | with_reducible refine y_neB ?_ | with_reducible refine y_eqS ?_ | with_reducible refine y_neS ?_ | with_reducible refine y_isN ?_ | with_reducible refine y_isnN ?_ | with_reducible refine y_wget ?_ | with_reducible refine y_mkx1 ?_ | with_reducible refine y_aAdd ?_ | with_reducible refine w_ln ?_ | with_reducible refine y_cn ?_ | with_reducible refine And.intro (len_ok (by with_unfolding_all exact rfl)) ?_)))
/-! ### clauses that are such, steps -/
def ClG (c : List Lit) : Prop := SCl c ∧ (∀ p ∈ c, NmG p.1) ∧ c.length ≤ 40
theorem ClG.ok {c : List Lit} (h : ClG c) : LOk c := fun p hp => (h.2.1 p hp).1.1
theorem lit_pl {p : Lit} (h : NmOk p.1) (c : Nat) (hc : 2 ≤ c) (n : Nat) : Pl c (n + 1) (litU p) := by
  unfold litU Pl
  refine ⟨hc, fun u hu => ?_⟩
  simp only [List.mem_cons, List.mem_nil_iff, or_false] at hu
  rcases hu with rfl | rfl
  · exact Pl.strs ⟨h.1, by rw [sizeL]; have := h.2.2; omega⟩
  · cases n <;> trivial
theorem lits_pl {ls : List Lit} (h : ∀ p ∈ ls, NmOk p.1) {c : Nat} (hc : 2 ≤ c) (hl : ls.length ≤ c) (n : Nat) : Pl c (n + 2) (.tup (ls.map litU)) := by
  unfold Pl
  refine ⟨by rw [List.length_map]; exact hl, fun u hu => ?_⟩
  obtain ⟨p, hp, rfl⟩ := List.mem_map.mp hu
  exact lit_pl (h p hp) c hc n
theorem ClG.pl {c : List Lit} (h : ClG c) (n : Nat) : Pl 40 (n + 2) (clU c) := lits_pl (fun p hp => (h.2.1 p hp).1) (by decide) h.2.2 n
theorem ClG.b {c : List Lit} (h : ClG c) : clauseB (clU c) = true := by
  have e1 : (c.map litU).all litB = true := by
    rw [List.all_map, List.all_eq_true]
    intro p hp
    show (nameB (.str p.1) && true) = true
    rw [(h.2.1 p hp).2]
    rfl
  show ((c.map litU).all litB && risB ((c.map litU).map nmU)) = true
  rw [e1, nm_lits, pw_ris (List.pairwise_map.mpr h.1)]
  rfl
def StepOk (s : CStep) (pre : List (List Lit)) (c : List Lit) : Prop := ClG c ∧ match s with
  | .giv c' => c' = c
  | .met i j n => ∃ a b, pre[i]? = some a ∧ pre[j]? = some b ∧ NmG n ∧ metC a b n = some c
def ChOk (ss : List CStep) (cs : List (List Lit)) : Prop := ss.length = cs.length ∧ ∀ (i : Nat) (s : CStep), ss[i]? = some s → ∃ c, cs[i]? = some c ∧ StepOk s (cs.take i) c
theorem chOk_nil : ChOk [] [] := ⟨rfl, fun i s h => by simp at h⟩
theorem chOk_snoc {ss : List CStep} {cs : List (List Lit)} {s : CStep} {c : List Lit} (h : ChOk ss cs) (hs : StepOk s cs c) : ChOk (ss ++ [s]) (cs ++ [c]) := by
  refine ⟨by rw [List.length_append, List.length_append, h.1]; rfl, fun i t ht => ?_⟩
  by_cases hi : i < ss.length
  · rw [List.getElem?_append_left hi] at ht
    obtain ⟨x, h1, h2⟩ := h.2 i t ht
    refine ⟨x, by rw [List.getElem?_append_left (by rw [← h.1]; exact hi)]; exact h1, ?_⟩
    rw [List.take_append_of_le_length (by rw [← h.1]; omega)]
    exact h2
  · have hi2 : i = ss.length := by
      have := (List.getElem?_eq_some_iff.mp ht).1
      rw [List.length_append, List.length_singleton] at this
      omega
    subst hi2
    rw [List.getElem?_append_right (Nat.le_refl _), Nat.sub_self] at ht
    cases ht
    refine ⟨c, by rw [h.1, List.getElem?_append_right (Nat.le_refl _), Nat.sub_self]; rfl, ?_⟩
    rw [h.1, List.take_append_of_le_length (Nat.le_refl _), List.take_length]
    exact hs
theorem ChOk.good {ss : List CStep} {cs : List (List Lit)} (h : ChOk ss cs) : ∀ c ∈ cs, ClG c := fun c hc => by
  obtain ⟨i, hi⟩ := List.mem_iff_getElem?.mp hc
  have hl := (List.getElem?_eq_some_iff.mp hi).1
  rw [← h.1] at hl
  obtain ⟨c', h1, h2⟩ := h.2 i ss[i] (List.getElem?_eq_getElem hl)
  rw [hi] at h1
  cases h1
  exact h2.1
theorem ChOk.giv {ss : List CStep} {cs : List (List Lit)} (h : ChOk ss cs) {c : List Lit} (hc : CStep.giv c ∈ ss) : c ∈ cs := by
  obtain ⟨i, hi⟩ := List.mem_iff_getElem?.mp hc
  obtain ⟨c', h1, h2, h3⟩ := h.2 i _ hi
  have h3 : c = c' := h3
  subst h3
  exact List.mem_of_getElem? h1
theorem ChOk.last {ss : List CStep} {cs : List (List Lit)} (h : ChOk ss cs) (hn : ss ≠ []) : ∃ cs' c, cs = cs' ++ [c] := by
  rcases List.eq_nil_or_concat cs with e | ⟨l, c, e⟩
  · have := h.1
    rw [e] at this
    exact absurd (List.length_eq_zero_iff.mp this) hn
  · exact ⟨l, c, by rw [e, List.concat_eq_append]⟩
theorem clause_of_step {k f : Nat} {s : CStep} {pre : List (List Lit)} {c : List Lit} {S : Sto} (hf : S[f]? = some (.lst (pre.map clU))) (hp : ∀ c ∈ pre, ClG c) (hs : StepOk s pre c) :
    Y (call (k + 5) i_clause_of_step [s.u, .loc f] S) fun u S' => u = clU c ∧ Fr [] S S' := by
  refine y_run ?_
  show WS (b_clause_of_step (call (k + 4)) [some s.u, some (.loc f)] S) _
  unfold b_clause_of_step
  cases s with
  | giv c' =>
    obtain ⟨hg, hs⟩ := hs
    have hs : c' = c := hs
    subst hs
    refine w_seq (w_ifP (fun t => t = false) ?_ (fun q => by cases q) (fun _ => ?_))
    · walk_at "wp"
      refine Y.of (show isiC [CStep.u (.giv c'), .ty "tuple"] S = .ok (.bl true) S from rfl) ?_
      walk_at "wp"
      refine ite_b (fun q => by cases q) (fun _ => ?_)
      walk_at "wp"
      refine y_lenT ?_
      walk_at "wp"
      exact ⟨rfl, rfl⟩
    refine w_nop ?_
    refine w_seq (w_ifP (fun t => t = true) ?_ (fun _ => ?_) (fun q => by cases q))
    · walk_at "wp"
      refine y_ix (u := .str "given") rfl ?_
      walk_at "wp"
      refine ite_b (fun _ => ?_) (fun q => absurd q (by decide))
      walk_at "wp"
      refine y_lenT ?_
      walk_at "wp"
      exact ⟨rfl, rfl⟩
    · walk_at "wp"
      refine y_if ?_
      walk_at "wp"
      refine y_ix (u := clU c') rfl ?_
      walk_at "wp"
      refine ⟨rfl, (is_clause (hg.pl 0) (by decide)).mono ?_⟩
      rintro _ S1 ⟨rfl, hS⟩
      subst S1
      rw [hg.b]
      refine y_tbl ?_
      refine ite_b (fun _ => ?_) (fun q => by cases q)
      walk_at "wp"
      refine y_ix (u := clU c') rfl ?_
      exact ⟨rfl, Fr.refl _ _⟩
  | met i j n =>
    obtain ⟨hg, a, b, ha, hb, hn, hm⟩ := hs
    have hai := (List.getElem?_eq_some_iff.mp ha).1
    have hbi := (List.getElem?_eq_some_iff.mp hb).1
    have ga := hp a (List.mem_of_getElem? ha)
    have gb := hp b (List.mem_of_getElem? hb)
    refine w_seq (w_ifP (fun t => t = false) ?_ (fun q => by cases q) (fun _ => ?_))
    · walk_at "wp"
      refine Y.of (show isiC [CStep.u (.met i j n), .ty "tuple"] S = .ok (.bl true) S from rfl) ?_
      walk_at "wp"
      refine ite_b (fun q => by cases q) (fun _ => ?_)
      walk_at "wp"
      refine y_lenT ?_
      walk_at "wp"
      exact ⟨rfl, rfl⟩
    refine w_nop ?_
    refine w_seq (w_ifP (fun t => t = false) ?_ (fun q => by cases q) (fun _ => ?_))
    · walk_at "wp"
      refine y_ix (u := .str "met") rfl ?_
      walk_at "wp"
      refine ite_b (fun q => absurd q (by decide)) (fun q => ?_)
      exact ⟨rfl, rfl⟩
    refine w_nop ?_
    refine w_seq (w_ifP (fun t => t = false) ?_ (fun q => by cases q) (fun _ => ?_))
    · walk_at "wp"
      refine y_ix (u := .str "met") rfl ?_
      walk_at "wp"
      refine ite_b (fun q => absurd q (by decide)) (fun q => ?_)
      walk_at "wp"
      refine y_lenT ?_
      walk_at "wp"
      refine ite_b (fun q => absurd q (by show ¬ ((!decide ((4 : Int) = 4)) = true); decide)) (fun q => ?_)
      walk_at "wp"
      refine y_ix (u := .str n) rfl ?_
      walk_at "wp"
      refine ⟨rfl, (is_name (c := 40) (m := 1) (Pl.strs ⟨hn.1.1, by rw [sizeL]; have := hn.1.2.2; omega⟩)).mono ?_⟩
      rintro _ S1 ⟨rfl, hS⟩
      subst S1
      rw [hn.2]
      walk_at "wp"
      exact ⟨rfl, rfl⟩
    refine w_nop ?_
    refine w_seq (w_ifP (fun t => t = false) ?_ (fun q => by cases q) (fun _ => ?_))
    · walk_at "wp"
      refine y_ix (u := .int (i : Int)) rfl ?_
      walk_at "wp"
      refine y_lenLc hf ?_
      rw [List.length_map]
      walk_at "wp"
      refine ⟨rfl, is_number.mono ?_⟩
      rintro _ S1 ⟨rfl, hS⟩
      subst S1
      rw [decide_eq_true ⟨by omega, by omega⟩]
      walk_at "wp"
      refine ite_b (fun q => by cases q) (fun _ => ?_)
      walk_at "wp"
      refine y_ix (u := .int (j : Int)) rfl ?_
      walk_at "wp"
      refine y_lenLc hf ?_
      rw [List.length_map]
      walk_at "wp"
      refine ⟨rfl, is_number.mono ?_⟩
      rintro _ S1 ⟨rfl, hS⟩
      subst S1
      rw [decide_eq_true ⟨by omega, by omega⟩]
      walk_at "wp"
      exact ⟨rfl, rfl⟩
    walk_at "wp"
    refine y_ix (u := .int (i : Int)) rfl ?_
    walk_at "wp"
    refine y_ixLoc (u := clU a) hf (by rw [List.getElem?_map, ha]; rfl) ?_
    walk_at "wp"
    refine y_ix (u := .int (j : Int)) rfl ?_
    walk_at "wp"
    refine y_ixLoc (u := clU b) hf (by rw [List.getElem?_map, hb]; rfl) ?_
    walk_at "wp"
    refine y_ix (u := .str n) rfl ?_
    walk_at "wp"
    refine ⟨rfl, (met_clause ga.ok gb.ok hn.1.1 (by have := ga.2.2; omega) (by have := gb.2.2; omega)).mono ?_⟩
    rintro _ S1 ⟨rfl, f1⟩
    rw [hm]
    exact ⟨rfl, f1⟩
theorem clauses_of_steps {k : Nat} {ss : List CStep} {cs : List (List Lit)} {S : Sto} (h : ChOk ss cs) (hn : ss ≠ []) (hl : ss.length ≤ 100000) :
    Y (call (k + 6) i_clauses_of_steps [.lst (ss.map CStep.u)] S) fun u S' => u = .lst (cs.map clU) ∧ Fr [] S S' := by
  refine y_run ?_
  show WS (b_clauses_of_steps (call (k + 5)) [some (.lst (ss.map CStep.u)), none, none, none, none] S) _
  unfold b_clauses_of_steps
  refine w_seq (w_ifP (fun t => t = false) ?_ (fun q => by cases q) (fun _ => ?_))
  · walk_at "wp"
    refine Y.of (show isiC [.lst (ss.map CStep.u), .tup [.ty "list", .ty "tuple"]] S = .ok (.bl true) S from rfl) ?_
    walk_at "wp"
    refine ite_b (fun q => by cases q) (fun _ => ?_)
    walk_at "wp"
    refine y_lenL ?_
    walk_at "wp"
    refine ⟨rfl, decide_eq_false ?_⟩
    rw [List.length_map]
    have := List.length_pos_iff.mpr hn
    omega
  refine w_nop ?_
  refine w_seq (w_set (y_locG ?_))
  walk_at "wp"
  intro f S1 ef h1 l1 f1
  walk_at "wp"
  refine Y.of (show aEnum (aCons (fVar 0) aNil) [some (.lst (ss.map CStep.u)), some (.loc f), none, none, none] S1 = .ok (enumU 0 (ss.map CStep.u)) S1 from rfl) ?_
  refine w_loop (fun us d S2 => ∃ (j : Nat) (x2 x3 x4 : Option U), us = enumU j ((ss.drop j).map CStep.u) ∧ j ≤ ss.length ∧ d = [some (.lst (ss.map CStep.u)), some (.loc f), x2, x3, x4] ∧ S2[f]? = some (.lst ((cs.take j).map clU)) ∧ Fr [] S S2) ?_ ?_ _ _ _ ⟨0, _, _, _, rfl, Nat.zero_le _, rfl, h1, f1⟩
  · rintro u us _ S2 ⟨j, x2, x3, x4, e, hj, rfl, h2, f2⟩
    by_cases hj2 : j < ss.length
    · rw [List.drop_eq_getElem_cons hj2, List.map_cons] at e
      unfold enumU at e
      cases e
      obtain ⟨c, hc, hs⟩ := h.2 j ss[j] (List.getElem?_eq_getElem hj2)
      refine ⟨_, rfl, ?_⟩
      walk_at "wp"
      refine ⟨rfl, (clause_of_step (k := k) h2 (fun c hc => h.good c (List.mem_of_mem_take hc)) hs).mono ?_⟩
      rintro _ S3 ⟨rfl, f3⟩
      have h3 := f3.get h2 (by simp)
      walk_at "wp"
      refine w_if ?_
      walk_at "wp"
      refine ite_b (fun q => by cases q) (fun _ => ?_)
      walk_at "wp"
      refine ⟨ty_list h3, ?_⟩
      walk_at "wp"
      refine y_appG h3 (by rw [List.length_map, List.length_take, sizeL]; omega) fun S4 h4 l4 f4 => ?_
      refine ⟨j + 1, _, _, _, rfl, hj2, rfl, ?_, (f2.trans (f3.more (by simp))).thenNew f4 (by rw [ef]; exact Nat.le_refl _)⟩
      rw [h4, List.take_add_one, hc, List.map_append]
      rfl
    · rw [List.drop_eq_nil_of_le (by omega)] at e
      cases e
  · rintro d S2 ⟨j, x2, x3, x4, e, hj, rfl, h2, f2⟩
    have hj2 : j = ss.length := by
      by_cases hj2 : j < ss.length
      · rw [List.drop_eq_getElem_cons hj2, List.map_cons] at e
        cases e
      · omega
    subst hj2
    rw [h.1, List.take_length] at h2
    walk_at "wp"
    refine ⟨f, _, rfl, h2, rfl, f2.thenNew (Fr.set (List.mem_singleton.mpr rfl)) (by rw [ef]; exact Nat.le_refl _)⟩
/-! ### chains -/
def chainO (ss : List CStep) (cs : List (List Lit)) : Ob := .ins "Chain" [("reached", .lst (cs.map clU)), ("rows", .lst (ss.map CStep.u))]
theorem chain_init {k n : Nat} {ss : List CStep} {cs : List (List Lit)} {S : Sto} (h : ChOk ss cs) (hn : ss ≠ []) (hl : ss.length ≤ 100000) (h0 : S[n]? = some (.ins "Chain" [])) :
    Y (call (k + 7) i_Chain___init__ [.loc n, .lst (ss.map CStep.u)] S) fun u S' => u = .non ∧ S'[n]? = some (chainO ss cs) ∧ Fr [n] S S' := by
  refine y_run ?_
  show WS (b_Chain___init__ (call (k + 6)) [some (.loc n), some (.lst (ss.map CStep.u))] S) _
  unfold b_Chain___init__
  refine w_seq (w_putF ?_)
  walk_at "wp"
  refine ⟨rfl, (clauses_of_steps (k := k) h hn hl).mono ?_⟩
  rintro _ S1 ⟨rfl, f1⟩
  have h1 := f1.get h0 (by simp)
  walk_at "wp"
  refine ⟨n, _, rfl, h1, by decide, ?_⟩
  have h2 : (S1.set n (.ins "Chain" (setF "reached" (.lst (cs.map clU)) [])))[n]? = some (.ins "Chain" (setF "reached" (.lst (cs.map clU)) [])) := List.getElem?_set_self (List.getElem?_eq_some_iff.mp h1).1
  have f2 : Fr [n] S (S1.set n (.ins "Chain" (setF "reached" (.lst (cs.map clU)) []))) := (f1.more (by simp)).trans (Fr.set (by simp))
  generalize S1.set n (.ins "Chain" (setF "reached" (.lst (cs.map clU)) [])) = S2 at h2 f2 ⊢
  refine w_putF ?_
  walk_at "wp"
  refine Y.of (show listC [.lst (ss.map CStep.u)] S2 = .ok (ss.map CStep.u) S2 from rfl) ?_
  walk_at "wp"
  refine ⟨n, _, rfl, h2, (by show 1 < 1000; decide), ?_⟩
  exact ⟨rfl, List.getElem?_set_self (List.getElem?_eq_some_iff.mp h2).1, f2.trans (Fr.set (by simp))⟩
theorem chain_make {k : Nat} {ss : List CStep} {cs : List (List Lit)} {S : Sto} {fa : FA} {d : En} {Q : U → Sto → Prop} (h : ChOk ss cs) (hn : ss ≠ []) (hl : ss.length ≤ 100000)
    (ha : Y (fa d S) fun us S1 => us = [.lst (ss.map CStep.u)] ∧ ∀ (n : Nat) S2, n = S1.length → S2[n]? = some (chainO ss cs) → Fr [] S1 S2 → Q (.loc n) S2) : Y (fMake "Chain" 2 (call (k + 7) i_Chain___init__) fa d S) Q :=
  y_make (ha.mono fun us S1 ⟨e, q⟩ => by
    subst e
    refine ⟨rfl, (chain_init (k := k) h hn hl sto_snoc).mono ?_⟩
    rintro _ S2 ⟨rfl, h1, f1⟩
    exact ⟨rfl, q _ S2 rfl h1 (Fr.push.thenNew f1 (Nat.le_refl _))⟩)
theorem chain_last {k n : Nat} {ss : List CStep} {cs : List (List Lit)} {c : List Lit} {S : Sto} (h : S[n]? = some (chainO ss (cs ++ [c]))) : Y (call (k + 1) i_Chain_last [.loc n] S) fun u S' => u = clU c ∧ S' = S := by
  refine y_run ?_
  show WS (b_Chain_last (call k) [some (.loc n)] S) _
  unfold b_Chain_last
  walk_at "wp"
  refine y_get ?_
  walk_at "wp"
  refine ⟨n, _, .lst ((cs ++ [c]).map clU), rfl, h, rfl, ?_⟩
  walk_at "wp"
  refine y_negI ?_
  refine y_ix (u := clU c) (show atI ((cs ++ [c]).map clU) (-1) = some (clU c) by rw [List.map_append]; exact atI_neg _ _) ?_
  exact ⟨rfl, rfl⟩
/-- the given clauses -/
def givsOf (ss : List CStep) : List (List Lit) := ss.filterMap CStep.givs
theorem givs_mem {ss : List CStep} {c : List Lit} : c ∈ givsOf ss ↔ CStep.giv c ∈ ss := by
  unfold givsOf
  rw [List.mem_filterMap]
  constructor
  · rintro ⟨s, hs, e⟩
    cases s with
    | giv c' => cases e; exact hs
    | met i j n => cases e
  · intro h
    exact ⟨_, h, rfl⟩
def isGiv : CStep → Bool
  | .giv _ => true
  | .met _ _ _ => false
def givU : CStep → U
  | .giv c => clU c
  | .met _ _ _ => .non
theorem givs_map : ∀ ss : List CStep, (ss.filter isGiv).map givU = (givsOf ss).map clU
  | [] => rfl
  | .giv c :: ss => by
    rw [List.filter_cons_of_pos rfl, List.map_cons, givs_map ss]
    rfl
  | .met i j n :: ss => by
    rw [List.filter_cons_of_neg (by show ¬ (false = true); decide), givs_map ss]
    rfl
theorem y_compGiv {gt : U → En → Option En} {t : FT} {g : FE} {d : En} {S : Sto} {Q : List U → Sto → Prop} {ss : List CStep} (hs : ∀ s ∈ ss, ∃ d1, gt s.u d = some d1 ∧ Y (t d1 S) (fun b S2 => b = isGiv s ∧ S2 = S) ∧ (isGiv s = true → Y (g d1 S) fun y S2 => y = givU s ∧ S2 = S)) (hl : ss.length ≤ 100000) (h : Q ((givsOf ss).map clU) S) : Y (compF gt t g d (ss.map CStep.u) [] S) Q := by
  refine y_compFX CStep.u isGiv givU ss [] hs (by rw [List.length_nil, sizeL]; omega) ?_
  rw [List.nil_append, givs_map]
  exact h
theorem chain_givens {k n : Nat} {ss : List CStep} {cs : List (List Lit)} {S : Sto} (h : S[n]? = some (chainO ss cs)) (hl : ss.length ≤ 1000) : Y (call (k + 1) i_Chain_givens [.loc n] S) fun u S' => S' = S ∧ ∃ gs : List (List Lit), u = .lst (gs.map clU) ∧ (∀ c, c ∈ gs ↔ c ∈ givsOf ss) ∧ gs.length ≤ 1000 := by
  refine y_run ?_
  show WS (b_Chain_givens (call k) [some (.loc n), none] S) _
  unfold b_Chain_givens
  walk_at "wp"
  refine y_get ?_
  walk_at "wp"
  refine ⟨n, _, .lst (ss.map CStep.u), rfl, h, rfl, _, rfl, ?_⟩
  refine y_compGiv (fun s hs => ?_) (by omega) ?_
  · refine ⟨_, rfl, ?_, fun hg => ?_⟩
    · refine y_B ?_
      cases s with
      | giv c =>
        walk_at "wp"
        refine y_ix (u := .str "given") rfl ?_
        walk_at "wp"
        exact ⟨by show decide (("given" : Str) = "given") = true; decide, rfl⟩
      | met i j n =>
        walk_at "wp"
        refine y_ix (u := .str "met") rfl ?_
        walk_at "wp"
        exact ⟨by show decide (("met" : Str) = "given") = false; decide, rfl⟩
    · cases s with
      | giv c =>
        walk_at "wp"
        refine y_ix (u := clU c) rfl ?_
        exact ⟨rfl, rfl⟩
      | met i j n => cases hg
  have hgl : (givsOf ss).length ≤ ss.length := List.length_filterMap_le _ _
  walk_at "wp"
  refine y_sortSetCls (by omega) fun gs hm hgl2 => ?_
  exact ⟨rfl, gs, rfl, hm, by omega⟩

end Law

set_option Elab.async false
set_option linter.all false
set_option maxRecDepth 100000
namespace Law
open PySem PySem.Spec L2 DL
local macro_rules | `(tactic| walk_at "wp") => `(tactic| (repeat (first | with_reducible refine w_seq ?_ | with_reducible refine w_set ?_ | with_reducible refine w_expr ?_ | with_reducible refine w_ret ?_ | with_reducible refine w_retN ?_ | with_reducible refine w_store ?_ | with_reducible refine w_nop ?_ | with_reducible refine w_for ?_ | with_reducible refine w_asg ?_ | with_reducible refine w_ct ?_ | with_reducible refine w_brk ?_ | with_reducible refine y_f2 ?_ | with_reducible refine y_C ?_ | with_reducible refine y_var (by with_unfolding_all exact rfl) ?_ | with_reducible refine y_f1 ?_ | with_reducible refine y_B ?_ | with_reducible refine y_unB ?_ | with_reducible refine y_ch ?_ | with_reducible refine y_tru ?_ | with_reducible refine y_tbl ?_ | with_reducible refine y_and ?_ | with_reducible refine y_or ?_ | with_reducible refine y_not ?_ | with_reducible refine y_andV ?_ | with_reducible refine y_notV ?_ | with_reducible refine y_nil ?_ | with_reducible refine y_cons ?_ | with_reducible refine y_tup ?_ | with_reducible refine y_lst ?_ | with_reducible refine y_val ?_ | with_reducible refine y_loc ?_ | with_reducible refine y_dval ?_ | with_reducible refine y_dloc ?_ | with_reducible refine y_ice ?_ | with_reducible refine y_oNone ?_ | with_reducible refine y_oSome ?_ | with_reducible refine y_sl ?_ | with_reducible refine y_A ?_ | with_reducible refine y_call ?_ | with_reducible refine y_M ?_ | with_reducible refine y_aComp ?_ | with_reducible refine y_rng1 ?_ | with_reducible refine y_over ?_ | with_reducible refine y_addI ?_ | with_reducible refine y_subI ?_ | with_reducible refine y_ltI ?_ | with_reducible refine y_leI ?_ | with_reducible refine y_gtI ?_ | with_reducible refine y_geI ?_ | with_reducible refine y_eqI ?_ | with_reducible refine y_neI ?_ | with_reducible refine y_eqB ?_ | with_reducible refine y_neB ?_ | with_reducible refine y_eqS ?_ | with_reducible refine y_neS ?_ | with_reducible refine y_isN ?_ | with_reducible refine y_isnN ?_ | with_reducible refine y_wget ?_ | with_reducible refine y_mkx1 ?_ | with_reducible refine y_aAdd ?_ | with_reducible refine w_ln ?_ | with_reducible refine y_cn ?_ | with_reducible refine And.intro (len_ok (by with_unfolding_all exact rfl)) ?_)))
/-! ### clauses, drawn -/
theorem y_neLoc {f : Nat} {zs : List Str} {S : Sto} {Q : U → Sto → Prop} (hf : S[f]? = some (.lst (zs.map .str))) (h1 : ∀ z ∈ zs, PyData.strOk z = true) (hq : Q (.bl (!zs.isEmpty)) S) : Y (neU (.loc f) (.lst []) S) Q := by
  unfold DL.neU eqOk
  show Y (match toDS (.loc f) S, toDS (.lst []) S with
    | some a, some b => guard (SeqAt.shaped a && SeqAt.shaped b) (R.ok (.bl (!PyData.eqv a b)) S)
    | _, _ => .bad) Q
  have e : toDS (.loc f) S = some (.list (zs.map .str)) := by
    unfold toDS
    simp only [hf]
    rw [strs_D]
    rfl
  rw [e]
  refine y_guard (by rw [strs_shaped h1]; rfl) ?_
  cases zs with
  | nil => exact ⟨hq⟩
  | cons z zs => exact ⟨hq⟩
theorem law_clause {k n : Nat} {b : Int} {ws : List Str} {few : Nat} {S : Sto} (t0 : Tape n b S) (hb : b + 30 * (1 + 2 * few) ≤ 2 ^ 100) (hfew : few ≤ 60) (hw : ws.length ≤ 60) (hok : ∀ w ∈ ws, PyData.strOk w = true) (hnd : ws.Nodup) :
    Y (call (k + 2) i_law_clause [.loc n, .lst (ws.map .str), .int few] S) fun u S' => ∃ ls : List Lit, u = clU ls ∧ SCl ls ∧ (∀ p ∈ ls, p.1 ∈ ws) ∧ Tape n (b + 30 * (1 + 2 * few)) S' ∧ Fr [n] S S' := by
  refine y_run ?_
  show WS (b_law_clause (call (k + 1)) [some (.loc n), some (.lst (ws.map .str)), some (.int few), none, none, none, none] S) _
  unfold b_law_clause
  refine w_seq (w_set (y_locG ?_))
  walk_at "wp"
  refine Y.of (show listC [.lst (ws.map .str)] S = .ok (ws.map .str) S from rfl) ?_
  intro f S1 ef hf1 l1 f1
  have hn := t0.lt
  refine w_seq (w_set (y_locG ?_))
  walk_at "wp"
  intro g S2 eg hg2 l2 f2
  have hf2 := f2.get hf1 (by simp)
  have t2 := (t0.fr f1 (by simp)).fr f2 (by simp)
  have fr2 : Fr [n] S S2 := (f1.trans f2).more (by simp)
  walk_at "wp"
  refine ⟨rfl, (draw t2 (by omega) (by omega) (by omega)).mono ?_⟩
  rintro _ S3 ⟨r3, rfl, r30, r31, t3, -, f3⟩
  walk_at "wp"
  refine ⟨_, rfl, by omega, by omega, ?_⟩
  refine w_loop (fun us d S4 => ∃ (vs : List Str) (ls : List Lit) (x5 x6 : Option U), d = [some (.loc n), some (.lst (ws.map .str)), some (.int few), some (.loc f), some (.loc g), x5, x6] ∧ us.length + ls.length ≤ few ∧ vs.length ≤ 60 ∧ (ls.map (·.1) ++ vs).Perm ws ∧ Tape n (b + 30 * (1 + 2 * (few - us.length))) S4 ∧ S4[f]? = some (.lst (vs.map .str)) ∧ S4[g]? = some (.lst (ls.map litU)) ∧ Fr [n] S S4) ?_ ?_ _ _ _ ?_
  · rintro u us _ S4 ⟨vs, ls, x5, x6, rfl, hc, hvl, hpm, t4, hf4, hg4, f4⟩
    rw [List.length_cons] at hc t4
    refine ⟨_, rfl, ?_⟩
    refine w_ifP (fun t => t = !vs.isEmpty) ?_ (fun h => ?_) (fun h => ?_)
    · walk_at "wp"
      refine y_neLoc hf4 (fun z hz => hok z (hpm.mem_iff.mp (List.mem_append.mpr (.inr hz)))) ?_
      walk_at "wp"
      exact ⟨rfl, rfl⟩
    · have hv0 : 0 < vs.length := by
        cases vs with
        | nil => cases h
        | cons v vs => simp
      walk_at "wp"
      refine ⟨ty_list hf4, ?_⟩
      walk_at "wp"
      refine y_lenLc hf4 ?_
      rw [List.length_map]
      walk_at "wp"
      refine ⟨rfl, (draw t4 (by omega) (by omega) (by omega)).mono ?_⟩
      rintro _ S5 ⟨r5, rfl, r50, r51, t5, -, f5⟩
      have hf5 := f5.get hf4 (by simp; omega)
      have hg5 := f5.get hg4 (by simp; omega)
      walk_at "wp"
      refine y_popP hf5 r50 r51 (by omega) fun w vs' S6 hp6 hf6 l6 f6 => ?_
      have hl6 := hp6.length_eq
      rw [List.length_cons] at hl6
      have hg6 := f6.get hg5 (by simp; omega)
      have t6 := t5.fr f6 (by simp; omega)
      walk_at "wp"
      refine ⟨ty_list hg6, ?_⟩
      walk_at "wp"
      refine ⟨rfl, (draw t6 (by omega) (by decide) (by decide)).mono ?_⟩
      rintro _ S7 ⟨r7, rfl, -, -, t7, -, f7⟩
      have hf7 := f7.get hf6 (by simp; omega)
      have hg7 := f7.get hg6 (by simp; omega)
      walk_at "wp"
      refine y_appG hg7 (by rw [List.length_map, sizeL]; omega) fun S8 hg8 l8 f8 => ?_
      have hf8 := f8.get hf7 (by simp; omega)
      have t8 := t7.fr f8 (by simp; omega)
      have out : Fr [n] S S8 := Fr.thenNew ((Fr.thenNew (f4.trans f5) f6 (by omega)).trans f7) f8 (by omega)
      refine ⟨vs', ls ++ [(w, decide (r7 = 1))], _, _, rfl, by rw [List.length_append, List.length_singleton]; omega, by omega, ?_, t8.mono (by omega), hf8, by rw [List.map_append]; exact hg8, out⟩
      rw [List.map_append, List.append_assoc]
      exact (List.Perm.append_left _ hp6).trans hpm
    · walk_at "wp"
      exact ⟨vs, ls, _, _, rfl, by omega, hvl, hpm, t4.mono (by omega), hf4, hg4, f4⟩
  · rintro d S4 ⟨vs, ls, x5, x6, rfl, hc, hvl, hpm, t4, hf4, hg4, f4⟩
    walk_at "wp"
    have nd : (ls.map (·.1)).Nodup := (List.nodup_append.mp (hpm.nodup_iff.mpr hnd)).1
    refine y_sortedScl (dict_none hg4) (list_loc hg4) nd fun c hs pm => ?_
    walk_at "wp"
    refine Y.of (show tupleC [.lst (c.map litU)] S4 = .ok (clU c) S4 from rfl) ?_
    refine ⟨c, rfl, hs, fun p hp => hpm.mem_iff.mp (List.mem_append.mpr (.inl (List.mem_map.mpr ⟨p, pm.mem_iff.mp hp, rfl⟩))), t4.mono (by simp only [List.length_nil]; omega), f4⟩
  · have hf3 := f3.get hf2 (by simp; omega)
    have hg3 := f3.get hg2 (by simp; omega)
    exact ⟨ws, [], _, _, rfl, by rw [rng_len, List.length_nil]; omega, hw, .refl _, t3.mono (by rw [rng_len]; omega), hf3, hg3, fr2.trans f3⟩

end Law

set_option Elab.async false
set_option linter.all false
set_option maxRecDepth 100000
namespace Law
open PySem PySem.Spec L2 DL
local macro_rules | `(tactic| walk_at "wp") => `(tactic| (repeat (first | with_reducible refine w_seq ?_ | with_reducible refine w_set ?_ | with_reducible refine w_expr ?_ | with_reducible refine w_ret ?_ | with_reducible refine w_retN ?_ | with_reducible refine w_store ?_ | with_reducible refine w_nop ?_ | with_reducible refine w_for ?_ | with_reducible refine w_asg ?_ | with_reducible refine w_ct ?_ | with_reducible refine w_brk ?_ | with_reducible refine y_f2 ?_ | with_reducible refine y_C ?_ | with_reducible refine y_var (by with_unfolding_all exact rfl) ?_ | with_reducible refine y_f1 ?_ | with_reducible refine y_B ?_ | with_reducible refine y_unB ?_ | with_reducible refine y_ch ?_ | with_reducible refine y_tru ?_ | with_reducible refine y_tbl ?_ | with_reducible refine y_and ?_ | with_reducible refine y_or ?_ | with_reducible refine y_not ?_ | with_reducible refine y_andV ?_ | with_reducible refine y_notV ?_ | with_reducible refine y_nil ?_ | with_reducible refine y_cons ?_ | with_reducible refine y_tup ?_ | with_reducible refine y_lst ?_ | with_reducible refine y_val ?_ | with_reducible refine y_loc ?_ | with_reducible refine y_dval ?_ | with_reducible refine y_dloc ?_ | with_reducible refine y_ice ?_ | with_reducible refine y_oNone ?_ | with_reducible refine y_oSome ?_ | with_reducible refine y_sl ?_ | with_reducible refine y_A ?_ | with_reducible refine y_call ?_ | with_reducible refine y_M ?_ | with_reducible refine y_aComp ?_ | with_reducible refine y_rng1 ?_ | with_reducible refine y_over ?_ | with_reducible refine y_addI ?_ | with_reducible refine y_subI ?_ | with_reducible refine y_ltI ?_ | with_reducible refine y_leI ?_ | with_reducible refine y_gtI ?_ | with_reducible refine y_geI ?_ | with_reducible refine y_eqI ?_ | with_reducible refine y_neI ?_ | with_reducible refine y_eqB ?_ | with_reducible refine y_neB ?_ | with_reducible refine y_eqS ?_ | with_reducible refine y_neS ?_ | with_reducible refine y_isN ?_ | with_reducible refine y_isnN ?_ | with_reducible refine y_wget ?_ | with_reducible refine y_mkx1 ?_ | with_reducible refine y_aAdd ?_ | with_reducible refine w_ln ?_ | with_reducible refine y_cn ?_ | with_reducible refine And.intro (len_ok (by with_unfolding_all exact rfl)) ?_)))
/-! ### chains grown backwards -/
def ClW (ws : List Str) (c : List Lit) : Prop := SCl c ∧ ∀ p ∈ c, p.1 ∈ ws
theorem ClW.len {ws : List Str} {c : List Lit} (h : ClW ws c) : c.length ≤ ws.length := by
  have := nodup_sub (m := ws) (scl_nodup h.1) fun x hx => by
    obtain ⟨p, hp, rfl⟩ := List.mem_map.mp hx
    exact h.2 p hp
  rw [List.length_map] at this
  exact this
theorem ClW.g {ws : List Str} {c : List Lit} (h : ClW ws c) (hw : ∀ w ∈ ws, NmG w) (hl : ws.length ≤ 18) : ClG c := ⟨h.1, fun p hp => hw _ (h.2 p hp), by have := h.len; omega⟩
def boxO (ws : List Str) (fs fc l : Nat) : Ob := .dic [.inr "names", .inr "steps", .inr "clauses", .inr "left"] [.lst (ws.map .str), .loc fs, .loc fc, .int (l : Int)]
structure Bx (n m fs fc : Nat) (b : Int) (ws : List Str) (ss : List CStep) (cs : List (List Lit)) (l : Nat) (S : Sto) : Prop where
  tape : Tape n b S
  box : S[m]? = some (boxO ws fs fc l)
  st : S[fs]? = some (.lst (ss.map CStep.u))
  cl : S[fc]? = some (.lst (cs.map clU))
  ok : ChOk ss cs
  cw : ∀ c ∈ cs, ClW ws c
theorem Bx.fr {n m fs fc : Nat} {b b' : Int} {ws : List Str} {ss : List CStep} {cs : List (List Lit)} {l : Nat} {S S' : Sto} (h : Bx n m fs fc b ws ss cs l S) (hd : [n, m, fs, fc].Nodup) (t : Tape n b' S') (f : Fr [n] S S') : Bx n m fs fc b' ws ss cs l S' := by
  simp only [List.nodup_cons, List.mem_cons, List.mem_nil_iff, or_false, not_or] at hd
  exact ⟨t, f.get h.box (by simp; omega), f.get h.st (by simp; omega), f.get h.cl (by simp; omega), h.ok, h.cw⟩
theorem ClG.ne {c : List Lit} {w : Str} (h1 : (w, true) ∉ c) (h2 : (w, false) ∉ c) {q : Lit} (hq : q ∈ c) : q.1 ≠ w := fun e => by
  obtain ⟨x, y⟩ := q
  have e : x = w := e
  subst e
  cases y with
  | true => exact h1 hq
  | false => exact h2 hq
/-- what two parts of a clause with a new name meet in -/
theorem met_grown {c A B c1 c2 : List Lit} {w : Str} (hc : SCl c) (hA : ∀ p ∈ A, p ∈ c) (hB : ∀ p ∈ B, p ∈ c) (hAB : ∀ p ∈ c, p ∈ A ∨ p ∈ B) (n1 : (w, true) ∉ c) (n2 : (w, false) ∉ c) (p1 : c1.Perm (A ++ [(w, true)])) (p2 : c2.Perm (B ++ [(w, false)])) : metC c1 c2 w = some c := by
  unfold metC
  rw [if_pos ⟨p1.mem_iff.mpr (by simp), p2.mem_iff.mpr (by simp)⟩]
  refine clOf_is ⟨hc, fun p => ?_⟩
  rw [List.mem_append, List.mem_filter, List.mem_filter, neL_iff, neL_iff, p1.mem_iff, p2.mem_iff, List.mem_append, List.mem_append, List.mem_singleton, List.mem_singleton]
  constructor
  · intro h
    rcases hAB p h with q | q
    · exact .inl ⟨.inl q, fun e => n1 (by rw [← e]; exact h)⟩
    · exact .inr ⟨.inl q, fun e => n2 (by rw [← e]; exact h)⟩
  · rintro (⟨q | q, z⟩ | ⟨q | q, z⟩)
    · exact hA p q
    · exact absurd q z
    · exact hB p q
    · exact absurd q z
def dfl : Lit := ("", true)
def pickL (c : List Lit) (p : Nat → Bool) : List Lit := ((List.range c.length).filter p).map fun k => c.getD k dfl
theorem range_getD (c : List Lit) : (List.range c.length).map (fun k => c.getD k dfl) = c := by
  apply List.ext_getElem?
  intro k
  rw [List.getElem?_map]
  by_cases h : k < c.length
  · rw [List.getElem?_range h]
    show some (c.getD k dfl) = _
    rw [List.getD_eq_getElem?_getD, List.getElem?_eq_getElem h]
    rfl
  · rw [List.getElem?_eq_none (by simpa using h), List.getElem?_eq_none (by omega)]
    rfl
theorem pick_sub (c : List Lit) (p : Nat → Bool) : (pickL c p).Sublist c := by
  have := (List.filter_sublist (l := List.range c.length) (p := p)).map fun k => c.getD k dfl
  rw [range_getD] at this
  exact this
theorem pick_mem {c : List Lit} {p : Nat → Bool} {k : Nat} (h : k < c.length) (hp : p k = true) : c[k] ∈ pickL c p := by
  refine List.mem_map.mpr ⟨k, List.mem_filter.mpr ⟨List.mem_range.mpr h, hp⟩, ?_⟩
  rw [List.getD_eq_getElem?_getD, List.getElem?_eq_getElem h]
  rfl
theorem pl_strs {ws : List Str} (h : ∀ w ∈ ws, NmG w) (hl : ws.length ≤ 60) : Pl 60 2 (.lst (ws.map .str)) := by
  unfold Pl
  refine ⟨by rw [List.length_map]; exact hl, fun u hu => ?_⟩
  obtain ⟨w, hw, rfl⟩ := List.mem_map.mp hu
  exact Pl.strs ⟨(h w hw).1.1, by rw [sizeL]; have := (h w hw).1.2.2; omega⟩
theorem pl_ints {α : Type} (f : α → Int) (xs : List α) (hl : xs.length ≤ 100000) : Pl 100000 2 (.lst (xs.map fun x => .int (f x))) := by
  unfold Pl
  refine ⟨by rw [List.length_map]; exact hl, fun u hu => ?_⟩
  obtain ⟨w, hw, rfl⟩ := List.mem_map.mp hu
  trivial
theorem ix_box {n m fs fc : Nat} {b : Int} {ws : List Str} {ss : List CStep} {cs : List (List Lit)} {l : Nat} {S : Sto} (h : S[m]? = some (boxO ws fs fc l)) :
    ixB (.loc m) (.str "names") S = some (.lst (ws.map .str)) ∧ ixB (.loc m) (.str "steps") S = some (.loc fs) ∧ ixB (.loc m) (.str "clauses") S = some (.loc fc) ∧ ixB (.loc m) (.str "left") S = some (.int (l : Int)) := ⟨ix_of h rfl, ix_of h rfl, ix_of h rfl, ix_of h rfl⟩
theorem y_neTupE {c : List Lit} {S : Sto} {Q : U → Sto → Prop} (hg : ClG c) (h : Q (.bl (!c.isEmpty)) S) : Y (neU (clU c) (.tup []) S) Q := by
  refine y_neCl (b := []) hg.ok (fun p hp => by cases hp) ?_
  have e : decide (c = []) = c.isEmpty := by cases c <;> rfl
  rw [e]
  exact h
/-- a call as deep as dp does so -/
def Grows (n m fs fc : Nat) (ws : List Str) (k dp : Nat) : Prop := ∀ {b : Int} {ss : List CStep} {cs : List (List Lit)} {l : Nat} {c : List Lit} {S : Sto},
    Bx n m fs fc b ws ss cs l S → ClW ws c → b + 1000 * (2 * (l : Int) + 1) ≤ 2 ^ 100 → cs.length + 2 * l ≤ 50000 →
    Y (call (k + dp + 3) i_law_grown [.loc n, .loc m, clU c, .int (dp : Int)] S) fun u S' => ∃ (i : Nat) (ss' : List CStep) (cs' : List (List Lit)) (l' : Nat), u = .int (i : Int) ∧ cs'[i]? = some c ∧ cs <+: cs' ∧ l' ≤ l ∧ cs'.length ≤ cs.length + 2 * (l - l') + 1 ∧ Bx n m fs fc (b + 1000 * (2 * ((l : Int) - l') + 1)) ws ss' cs' l' S' ∧ Fr [n, m, fs, fc] S S' ∧ (c ∈ cs ∨ ∃ cs0, cs' = cs0 ++ [c])
set_option maxHeartbeats 2000000 in
theorem grown_step {n m fs fc : Nat} {ws : List Str} (hw : ∀ w ∈ ws, NmG w) (hwl : ws.length ≤ 18) (hd0 : [n, m, fs, fc].Nodup) (k dp : Nat) (ih : dp ≠ 0 → ∃ dp', dp = dp' + 1 ∧ Grows n m fs fc ws k dp') : Grows n m fs fc ws k dp := by
  intro b ss cs l c S h hc hb hl
  have hd := hd0
  simp only [List.nodup_cons, List.mem_cons, List.mem_nil_iff, or_false, not_or] at hd
  have hg := hc.g hw hwl
  obtain ⟨bx1, bx2, bx3, bx4⟩ := ix_box (n := n) (b := b) (ss := ss) (cs := cs) h.box
  have hgs := h.ok.good
  refine y_run ?_
  show WS (b_law_grown (call (k + dp + 2)) [some (.loc n), some (.loc m), some (.tup (c.map litU)), some (.int (dp : Int)), none, none, none, none, none, none, none, none, none, none] S) _
  unfold b_law_grown
  walk_at "wp"
  refine y_ix bx1 ⟨_, rfl, ?_⟩
  refine y_compFX .str (fun w => !decide ((w, true) ∈ c) && !decide ((w, false) ∈ c)) .str ws [] (fun w hww => ?_) (by rw [List.length_nil, sizeL]; omega) ?_
  · refine ⟨_, rfl, ?_, fun _ => ?_⟩
    · walk_at "wp"
      refine y_ninLits (p := (w, true)) (hw w hww).1.1 hg.ok ?_
      walk_at "wp"
      by_cases q : (w, true) ∈ c
      · rw [decide_eq_true q]
        exact ⟨rfl, rfl⟩
      · rw [decide_eq_false q]
        show Y _ _
        walk_at "wp"
        refine y_ninLits (p := (w, false)) (hw w hww).1.1 hg.ok ?_
        walk_at "wp"
        exact ⟨rfl, rfl⟩
    · walk_at "wp"
      exact ⟨rfl, rfl⟩
  rw [List.nil_append]
  have hvs : ∀ w ∈ ws.filter (fun w => !decide ((w, true) ∈ c) && !decide ((w, false) ∈ c)), w ∈ ws ∧ (w, true) ∉ c ∧ (w, false) ∉ c := fun w hq => by
    obtain ⟨h1, h2⟩ := List.mem_filter.mp hq
    rw [Bool.and_eq_true, Bool.not_eq_true', Bool.not_eq_true'] at h2
    exact ⟨h1, of_decide_eq_false h2.1, of_decide_eq_false h2.2⟩
  have hvl : (ws.filter (fun w => !decide ((w, true) ∈ c) && !decide ((w, false) ∈ c))).length ≤ ws.length := List.length_filter_le _ _
  generalize ws.filter (fun w => !decide ((w, true) ∈ c) && !decide ((w, false) ∈ c)) = vs at hvs hvl ⊢
  walk_at "wp"
  refine y_ix bx3 ?_
  walk_at "wp"
  refine y_lenLc h.cl ?_
  rw [List.length_map]
  refine ⟨_, rfl, by omega, by omega, ?_⟩
  rw [Int.toNat_natCast, rng_eq]
  refine y_compFX (fun (i : Nat) => U.int (0 + (i : Int) * 1)) (fun i => decide (cs[i]? = some c)) (fun (i : Nat) => U.int (0 + (i : Int) * 1)) (List.range cs.length) [] (fun i hi => ?_) (by rw [List.length_nil, List.length_range, sizeL]; omega) ?_
  · have hi := List.mem_range.mp hi
    have e0 : (0 + (i : Int) * 1) = (i : Int) := by omega
    refine ⟨_, rfl, ?_, fun _ => ?_⟩
    · walk_at "wp"
      refine y_ix bx3 ?_
      walk_at "wp"
      rw [e0]
      refine y_ixLoc (u := clU cs[i]) h.cl (by rw [List.getElem?_map, List.getElem?_eq_getElem hi]; rfl) ?_
      walk_at "wp"
      refine y_eqCl (hgs _ (List.getElem_mem hi)).ok hg.ok ?_
      walk_at "wp"
      refine ⟨?_, rfl⟩
      rw [List.getElem?_eq_getElem hi]
      by_cases z : cs[i] = c <;> simp [z]
    · walk_at "wp"
      exact ⟨rfl, rfl⟩
  rw [List.nil_append]
  have hth : ∀ i ∈ (List.range cs.length).filter (fun i => decide (cs[i]? = some c)), cs[i]? = some c := fun i hi => of_decide_eq_true (List.mem_filter.mp hi).2
  have htl : ((List.range cs.length).filter (fun i => decide (cs[i]? = some c))).length ≤ 100000 := by
    have := List.length_filter_le (fun i => decide (cs[i]? = some c)) (List.range cs.length)
    rw [List.length_range] at this
    omega
  generalize (List.range cs.length).filter (fun i => decide (cs[i]? = some c)) = th at hth htl ⊢
  walk_at "wp"
  refine w_if ?_
  refine Y.mono (P := fun t S1 => Bx n m fs fc (b + 30) ws ss cs l S1 ∧ Fr [n, m, fs, fc] S S1 ∧ (t = true → th ≠ [])) ?_ ?_
  · walk_at "wp"
    refine y_neLE (pl_ints (fun i : Nat => 0 + (i : Int) * 1) th htl) (by decide) ?_
    walk_at "wp"
    refine ite_b (fun q => ?_) (fun q => ?_)
    · walk_at "wp"
      refine ⟨rfl, (draw h.tape (by omega) (by decide) (by decide)).mono ?_⟩
      rintro _ S1 ⟨r1, rfl, r10, r11, t1, l1, f1⟩
      walk_at "wp"
      refine ⟨h.fr hd0 t1 f1, f1.more (by simp), fun _ z => ?_⟩
      rw [z] at q
      cases q
    · exact ⟨h.fr hd0 (h.tape.mono (by omega)) (Fr.refl _ _), Fr.refl _ _, fun z => by cases z⟩
  rintro t S1 ⟨h1, f1, ht⟩
  obtain ⟨bx1, bx2, bx3, bx4⟩ := ix_box (n := n) (b := b) (ss := ss) (cs := cs) h1.box
  cases t with
  | true =>
    show WS _ _
    obtain ⟨l0, i, rfl⟩ : ∃ l0 i, th = l0 ++ [i] := by
      rcases List.eq_nil_or_concat th with e | ⟨l0, i, e⟩
      · exact absurd e (ht rfl)
      · exact ⟨l0, i, by rw [e, List.concat_eq_append]⟩
    walk_at "wp"
    refine y_negI ?_
    refine y_ix (u := .int (i : Int)) (show atI ((l0 ++ [i]).map fun (i : Nat) => U.int (0 + (i : Int) * 1)) (-1) = some (.int (i : Int)) by rw [List.map_append, List.map_singleton, atI_neg, show (0 + (i : Int) * 1) = (i : Int) by omega]) ?_
    have hi := hth i (by simp)
    refine ⟨i, ss, cs, l, rfl, hi, List.prefix_refl _, Nat.le_refl _, by omega, h1.fr hd0 (h1.tape.mono (by omega)) (Fr.refl _ _), f1, .inl (List.mem_of_getElem? hi)⟩
  | false =>
  show WS (fNop _ _) _
  refine w_nop ?_
  refine w_seq ?_
  -- behind the second if: a step more, its clause not yet
  refine WS.mono (D := { nx := fun d1 S2 => ∃ (ss' : List CStep) (cs' : List (List Lit)) (s : CStep) (l' : Nat) (x4 x5 x6 x7 x8 x9 x10 x11 x12 x13 : Option U), d1 = [some (.loc n), some (.loc m), some (.tup (c.map litU)), some (.int (dp : Int)), x4, x5, x6, x7, x8, x9, x10, x11, x12, x13] ∧ cs <+: cs' ∧ ChOk ss' cs' ∧ (∀ c ∈ cs', ClW ws c) ∧ StepOk s cs' c ∧ l' ≤ l ∧ cs'.length ≤ cs.length + 2 * (l - l') ∧ Tape n (b + 1000 * (2 * ((l : Int) - l') + 1)) S2 ∧ S2[m]? = some (boxO ws fs fc l') ∧ S2[fs]? = some (.lst ((ss' ++ [s]).map CStep.u)) ∧ S2[fc]? = some (.lst (cs'.map clU)) ∧ Fr [n, m, fs, fc] S S2, rt := fun _ _ => False }) ?_ (fun d S2 hh => ?_) (fun _ _ h => h.elim) (fun _ _ h => h.elim) (fun _ _ h => h.elim) (fun _ _ _ h => h.elim)
  · refine w_if ?_
    refine Y.mono (P := fun t S2 => Bx n m fs fc (b + 60) ws ss cs l S2 ∧ Fr [n, m, fs, fc] S S2 ∧ (t = false → vs ≠ [] ∧ dp ≠ 0 ∧ l ≠ 0)) ?_ ?_
    · walk_at "wp"
      refine y_eqLE (pl_strs (fun w hq => hw w (hvs w hq).1) (by omega)) (by decide) ?_
      walk_at "wp"
      refine ite_b (fun q => ?_) (fun q => ?_)
      · exact ⟨h1.fr hd0 (h1.tape.mono (by omega)) (Fr.refl _ _), f1, fun z => by cases z⟩
      walk_at "wp"
      refine ite_b (fun q2 => ?_) (fun q2 => ?_)
      · exact ⟨h1.fr hd0 (h1.tape.mono (by omega)) (Fr.refl _ _), f1, fun z => by cases z⟩
      walk_at "wp"
      refine y_ix bx4 ?_
      walk_at "wp"
      refine ite_b (fun q3 => ?_) (fun q3 => ?_)
      · exact ⟨h1.fr hd0 (h1.tape.mono (by omega)) (Fr.refl _ _), f1, fun z => by cases z⟩
      have q2 := of_decide_eq_false q2
      have q3 := of_decide_eq_false q3
      have fin : vs ≠ [] ∧ dp ≠ 0 ∧ l ≠ 0 := ⟨fun z => (by rw [z] at q; cases q), by omega, by omega⟩
      walk_at "wp"
      refine y_neTupE hg ?_
      walk_at "wp"
      refine ite_b (fun q4 => ?_) (fun q4 => ?_)
      · walk_at "wp"
        refine ⟨rfl, (draw h1.tape (by omega) (by decide) (by decide)).mono ?_⟩
        rintro _ S2 ⟨r2, rfl, r20, r21, t2, l2, f2⟩
        walk_at "wp"
        exact ⟨h1.fr hd0 (t2.mono (by omega)) f2, f1.trans (f2.more (by simp)), fun _ => fin⟩
      · exact ⟨h1.fr hd0 (h1.tape.mono (by omega)) (Fr.refl _ _), f1, fun _ => fin⟩
    rintro t S2 ⟨h2, f2, ht2⟩
    obtain ⟨bx1, bx2, bx3, bx4⟩ := ix_box (n := n) (b := b) (ss := ss) (cs := cs) h2.box
    cases t with
    | true =>
      show WS _ _
      walk_at "wp"
      refine y_ix bx2 ⟨ty_list h2.st, ?_⟩
      walk_at "wp"
      refine y_appG h2.st (by rw [List.length_map, sizeL]; have := h2.ok.1; omega) fun S3 h3 l3 f3 => ?_
      refine ⟨ss, cs, .giv c, l, _, _, _, _, _, _, _, _, _, _, rfl, List.prefix_refl _, h2.ok, h2.cw, ⟨hg, rfl⟩, Nat.le_refl _, by omega, (h2.tape.fr f3 (by simp; omega)).mono (by omega), f3.get h2.box (by simp; omega), by rw [List.map_append]; exact h3, f3.get h2.cl (by simp; omega), f2.trans (f3.more (by simp))⟩
    | false =>
      show WS _ _
      obtain ⟨hv0, hdp, hl0⟩ := ht2 rfl
      obtain ⟨dp', rfl, IH⟩ := ih hdp
      have hvp := List.length_pos_iff.mpr hv0
      walk_at "wp"
      refine y_ix bx4 ?_
      walk_at "wp"
      have e1 : ((l : Int) - 1) = ((l - 1 : Nat) : Int) := by omega
      refine ⟨_, st_of (p := ([.inr "names", .inr "steps", .inr "clauses", .inr "left"], [.lst (ws.map .str), .loc fs, .loc fc, .int ((l : Int) - 1)])) h2.box (by show 4 < sizeLine; decide) rfl, ?_⟩
      have h3 : Bx n m fs fc (b + 60) ws ss cs (l - 1) (S2.set m (.dic [.inr "names", .inr "steps", .inr "clauses", .inr "left"] [.lst (ws.map .str), .loc fs, .loc fc, .int ((l : Int) - 1)])) := by
        have f : Fr [m] S2 (S2.set m (.dic [.inr "names", .inr "steps", .inr "clauses", .inr "left"] [.lst (ws.map .str), .loc fs, .loc fc, .int ((l : Int) - 1)])) := Fr.set (by simp)
        refine ⟨h2.tape.fr f (by simp; omega), ?_, f.get h2.st (by simp; omega), f.get h2.cl (by simp; omega), h2.ok, h2.cw⟩
        rw [List.getElem?_set_self (List.getElem?_eq_some_iff.mp h2.box).1]
        unfold boxO
        rw [e1]
      have f3 : Fr [n, m, fs, fc] S (S2.set m (.dic [.inr "names", .inr "steps", .inr "clauses", .inr "left"] [.lst (ws.map .str), .loc fs, .loc fc, .int ((l : Int) - 1)])) := f2.trans (Fr.set (by simp))
      generalize S2.set m (.dic [.inr "names", .inr "steps", .inr "clauses", .inr "left"] [.lst (ws.map .str), .loc fs, .loc fc, .int ((l : Int) - 1)]) = S3 at h3 f3 ⊢
      walk_at "wp"
      refine y_lenS ?_
      walk_at "wp"
      refine ⟨rfl, (draw h3.tape (by omega) (by omega) (by omega)).mono ?_⟩
      rintro _ S4 ⟨r4, rfl, r40, r41, t4, l4, f4⟩
      have h4 := h3.fr hd0 t4 f4
      refine y_ixW r40 r41 fun w hwv _ => ?_
      obtain ⟨hww, nw1, nw2⟩ := hvs w hwv
      walk_at "wp"
      refine ⟨_, rfl, ?_⟩
      refine (y_comp (Q := fun us S5 => ∃ rs : List Int, us = rs.map .int ∧ rs.length = c.length ∧ Bx n m fs fc (b + 90 + 30 * c.length) ws ss cs (l - 1) S5 ∧ Fr [n, m, fs, fc] S S5)
        (fun us acc S5 => ∃ rs : List Int, acc = rs.map .int ∧ us.length + rs.length = c.length ∧ Bx n m fs fc (b + 90 + 30 * rs.length) ws ss cs (l - 1) S5 ∧ Fr [n, m, fs, fc] S S5) ?_ ?_ _ _ _ ⟨[], rfl, by rw [List.length_map, List.length_nil]; omega, h4.fr hd0 (h4.tape.mono (by simp only [List.length_nil]; omega)) (Fr.refl _ _), f3.trans (f4.more (by simp))⟩).mono ?_
      · rintro u us _ S5 ⟨rs, rfl, hrl, h5, f5⟩
        rw [List.length_cons] at hrl
        have := hg.2.2
        refine ⟨by rw [List.length_map, sizeL]; omega, _, rfl, y_ok ?_⟩
        rw [if_pos rfl]
        walk_at "wp"
        refine ⟨rfl, (draw h5.tape (by omega) (by decide) (by decide)).mono ?_⟩
        rintro _ S6 ⟨r6, rfl, r60, r61, t6, l6, f6⟩
        refine ⟨rs ++ [r6], by rw [List.map_append]; rfl, by rw [List.length_append, List.length_singleton]; omega, h5.fr hd0 (t6.mono (by rw [List.length_append, List.length_singleton]; omega)) f6, f5.trans (f6.more (by simp))⟩
      · rintro _ S5 ⟨rs, rfl, hrl, h5, f5⟩
        simp only [List.length_nil] at hrl
        exact ⟨rs, rfl, by omega, h5.fr hd0 (h5.tape.mono (by omega)) (Fr.refl _ _), f5⟩
      rintro _ S5 ⟨rs, rfl, hrl, h5, f5⟩
      have hcl : c.length ≤ 18 := by have := hc.len; omega
      walk_at "wp"
      refine y_lenT ?_
      rw [List.length_map]
      refine ⟨_, rfl, by omega, by omega, ?_⟩
      rw [Int.toNat_natCast, rng_eq]
      refine y_compFX (fun (i : Nat) => U.int (0 + (i : Int) * 1)) (fun i => decide (rs.getD i 0 < 2)) (fun (i : Nat) => litU (c.getD i dfl)) (List.range c.length) [] (fun i hi => ?_) (by rw [List.length_nil, List.length_range, sizeL]; omega) ?_
      · have hi := List.mem_range.mp hi
        have e0 : (0 + (i : Int) * 1) = (i : Int) := by omega
        refine ⟨_, rfl, ?_, fun _ => ?_⟩
        · walk_at "wp"
          rw [e0]
          refine y_ixLst (u := .int (rs.getD i 0)) (by rw [List.getElem?_map, List.getD_eq_getElem?_getD, List.getElem?_eq_getElem (by omega)]; rfl) ?_
          walk_at "wp"
          exact ⟨rfl, rfl⟩
        · walk_at "wp"
          rw [e0]
          refine y_ixTup (u := litU (c.getD i dfl)) (by rw [List.getElem?_map, List.getD_eq_getElem?_getD, List.getElem?_eq_getElem hi]; rfl) ?_
          exact ⟨rfl, rfl⟩
      rw [List.nil_append, show ((List.range c.length).filter fun i => decide (rs.getD i 0 < 2)).map (fun (i : Nat) => litU (c.getD i dfl)) = (pickL c fun i => decide (rs.getD i 0 < 2)).map litU from by unfold pickL; rw [List.map_map]; rfl]
      have sA := pick_sub c fun i => decide (rs.getD i 0 < 2)
      have mA := @pick_mem c fun i => decide (rs.getD i 0 < 2)
      generalize pickL c (fun i => decide (rs.getD i 0 < 2)) = A at sA mA ⊢
      have lA := sA.length_le
      walk_at "wp"
      refine y_addL (by rw [List.length_map, sizeL]; show A.length + 1 ≤ _; omega) ?_
      rw [show A.map litU ++ [U.tup [.str w, .bl true]] = (A ++ [(w, true)]).map litU from by rw [List.map_append]; rfl]
      walk_at "wp"
      refine y_lenT ?_
      rw [List.length_map]
      refine ⟨_, rfl, by omega, by omega, ?_⟩
      rw [Int.toNat_natCast, rng_eq]
      refine y_compFX (fun (i : Nat) => U.int (0 + (i : Int) * 1)) (fun i => decide (0 < rs.getD i 0)) (fun (i : Nat) => litU (c.getD i dfl)) (List.range c.length) [] (fun i hi => ?_) (by rw [List.length_nil, List.length_range, sizeL]; omega) ?_
      · have hi := List.mem_range.mp hi
        have e0 : (0 + (i : Int) * 1) = (i : Int) := by omega
        refine ⟨_, rfl, ?_, fun _ => ?_⟩
        · walk_at "wp"
          rw [e0]
          refine y_ixLst (u := .int (rs.getD i 0)) (by rw [List.getElem?_map, List.getD_eq_getElem?_getD, List.getElem?_eq_getElem (by omega)]; rfl) ?_
          walk_at "wp"
          exact ⟨rfl, rfl⟩
        · walk_at "wp"
          rw [e0]
          refine y_ixTup (u := litU (c.getD i dfl)) (by rw [List.getElem?_map, List.getD_eq_getElem?_getD, List.getElem?_eq_getElem hi]; rfl) ?_
          exact ⟨rfl, rfl⟩
      rw [List.nil_append, show ((List.range c.length).filter fun i => decide (0 < rs.getD i 0)).map (fun (i : Nat) => litU (c.getD i dfl)) = (pickL c fun i => decide (0 < rs.getD i 0)).map litU from by unfold pickL; rw [List.map_map]; rfl]
      have sB := pick_sub c fun i => decide (0 < rs.getD i 0)
      have mB := @pick_mem c fun i => decide (0 < rs.getD i 0)
      generalize pickL c (fun i => decide (0 < rs.getD i 0)) = B at sB mB ⊢
      have lB := sB.length_le
      have hAB : ∀ p ∈ c, p ∈ A ∨ p ∈ B := fun p hp => by
        obtain ⟨i, hi, rfl⟩ := List.getElem_of_mem hp
        by_cases z : rs.getD i 0 < 2
        · exact .inl (mA hi (decide_eq_true z))
        · exact .inr (mB hi (decide_eq_true (by omega)))
      have ndX : ∀ (X : List Lit) (v : Bool), X.Sublist c → ((X ++ [(w, v)]).map (·.1)).Nodup := fun X v hX => by
        rw [List.map_append]
        refine List.nodup_append.mpr ⟨(scl_nodup hg.1).sublist (hX.map _), List.pairwise_singleton _ _, fun a ha b0 hb0 e => ?_⟩
        obtain ⟨q, hq, rfl⟩ := List.mem_map.mp ha
        rw [List.map_singleton, List.mem_singleton] at hb0
        exact ClG.ne nw1 nw2 (hX.subset hq) (by rw [e, hb0])
      walk_at "wp"
      refine y_addL (by rw [List.length_map, sizeL]; show B.length + 1 ≤ _; omega) ?_
      rw [show B.map litU ++ [U.tup [.str w, .bl false]] = (B ++ [(w, false)]).map litU from by rw [List.map_append]; rfl]
      walk_at "wp"
      refine y_sortedScl rfl rfl (ndX A true sA) fun c1 s1 p1 => ?_
      walk_at "wp"
      refine Y.of (show tupleC [.lst (c1.map litU)] S5 = .ok (clU c1) S5 from rfl) ?_
      walk_at "wp"
      rw [show (((dp' + 1 : Nat) : Int) - 1) = (dp' : Int) by omega]
      have W1 : ClW ws c1 := ⟨s1, fun p hp => by
        rcases List.mem_append.mp (p1.mem_iff.mp hp) with q | q
        · exact hc.2 p (sA.subset q)
        · rw [List.mem_singleton.mp q]; exact hww⟩
      refine ⟨rfl, (IH h5 W1 (by omega) (by omega)).mono ?_⟩
      rintro _ S6 ⟨i, ss1, cs1, l1, rfl, hi, pre1, hl1, hcl1, h6, f6, -⟩
      walk_at "wp"
      refine y_sortedScl rfl rfl (ndX B false sB) fun c2 s2 p2 => ?_
      walk_at "wp"
      refine Y.of (show tupleC [.lst (c2.map litU)] S6 = .ok (clU c2) S6 from rfl) ?_
      walk_at "wp"
      rw [show (((dp' + 1 : Nat) : Int) - 1) = (dp' : Int) by omega]
      have W2 : ClW ws c2 := ⟨s2, fun p hp => by
        rcases List.mem_append.mp (p2.mem_iff.mp hp) with q | q
        · exact hc.2 p (sB.subset q)
        · rw [List.mem_singleton.mp q]; exact hww⟩
      refine ⟨rfl, (IH h6 W2 (by omega) (by omega)).mono ?_⟩
      rintro _ S7 ⟨j, ss2, cs2, l2, rfl, hj, pre2, hl2, hcl2, h7, f7, -⟩
      obtain ⟨bx1, bx2, bx3, bx4⟩ := ix_box (n := n) (b := b) (ss := ss) (cs := cs) h7.box
      walk_at "wp"
      refine y_ix bx2 ⟨ty_list h7.st, ?_⟩
      walk_at "wp"
      refine y_appG h7.st (by rw [List.length_map, sizeL]; have := h7.ok.1; omega) fun S8 h8 l8 f8 => ?_
      refine ⟨ss2, cs2, .met i j w, l2, _, _, _, _, _, _, _, _, _, _, rfl, pre1.trans pre2, h7.ok, h7.cw, ⟨hg, c1, c2, ?_, hj, hw w hww, met_grown hg.1 (fun p hp => sA.subset hp) (fun p hp => sB.subset hp) hAB nw1 nw2 p1 p2⟩, by omega, by omega, (h7.tape.fr f8 (by simp; omega)).mono (by omega), f8.get h7.box (by simp; omega), by rw [List.map_append]; exact h8, f8.get h7.cl (by simp; omega), ((f5.trans f6).trans f7).trans (f8.more (by simp))⟩
      obtain ⟨r, rfl⟩ := pre2
      rw [List.getElem?_append_left (List.getElem?_eq_some_iff.mp hi).1]
      exact hi
  · obtain ⟨ss', cs', s, l', x4, x5, x6, x7, x8, x9, x10, x11, x12, x13, rfl, pre, ok, cw, hs, hl1, hcl, t2, b2, st2, cl2, f2⟩ := hh
    obtain ⟨bx1, bx2, bx3, bx4⟩ := ix_box (n := n) (b := b) (ss := ss) (cs := cs) b2
    walk_at "wp"
    refine y_ix bx3 ⟨ty_list cl2, ?_⟩
    walk_at "wp"
    refine y_appG cl2 (by rw [List.length_map, sizeL]; omega) fun S3 h3 l3 f3 => ?_
    have b3 := f3.get b2 (by simp; omega)
    obtain ⟨bx1, bx2, bx3, bx4⟩ := ix_box (n := n) (b := b) (ss := ss) (cs := cs) b3
    walk_at "wp"
    refine y_ix bx3 ?_
    walk_at "wp"
    refine y_lenLc h3 ?_
    walk_at "wp"
    refine ⟨cs'.length, ss' ++ [s], cs' ++ [c], l', ?_, by simp, pre.trans (List.prefix_append _ _), hl1, by rw [List.length_append, List.length_singleton]; omega, ⟨t2.fr f3 (by simp; omega), b3, f3.get st2 (by simp; omega), by rw [List.map_append]; exact h3, chOk_snoc ok hs, fun q hq => (List.mem_append.mp hq).elim (cw q) fun z => by rw [List.mem_singleton.mp z]; exact hc⟩, f2.trans (f3.more (by simp)), .inr ⟨cs', rfl⟩⟩
    rw [List.length_append, List.length_map]
    congr 1
    show ((cs'.length + 1 : Nat) : Int) - 1 = _
    omega
theorem law_grown {n m fs fc : Nat} {ws : List Str} (hw : ∀ w ∈ ws, NmG w) (hwl : ws.length ≤ 18) (hd0 : [n, m, fs, fc].Nodup) (k : Nat) : ∀ dp : Nat, Grows n m fs fc ws k dp
  | 0 => grown_step hw hwl hd0 k 0 fun z => absurd rfl z
  | dp + 1 => grown_step hw hwl hd0 k (dp + 1) fun _ => ⟨dp, rfl, law_grown hw hwl hd0 k dp⟩

end Law

set_option Elab.async false
set_option linter.all false
set_option maxRecDepth 100000
namespace Law
open PySem PySem.Spec L2 DL
local macro_rules | `(tactic| walk_at "wp") => `(tactic| (repeat (first | with_reducible refine w_seq ?_ | with_reducible refine w_set ?_ | with_reducible refine w_expr ?_ | with_reducible refine w_ret ?_ | with_reducible refine w_retN ?_ | with_reducible refine w_store ?_ | with_reducible refine w_nop ?_ | with_reducible refine w_for ?_ | with_reducible refine w_asg ?_ | with_reducible refine w_ct ?_ | with_reducible refine w_brk ?_ | with_reducible refine y_f2 ?_ | with_reducible refine y_C ?_ | with_reducible refine y_var (by with_unfolding_all exact rfl) ?_ | with_reducible refine y_f1 ?_ | with_reducible refine y_B ?_ | with_reducible refine y_unB ?_ | with_reducible refine y_ch ?_ | with_reducible refine y_tru ?_ | with_reducible refine y_tbl ?_ | with_reducible refine y_and ?_ | with_reducible refine y_or ?_ | with_reducible refine y_not ?_ | with_reducible refine y_andV ?_ | with_reducible refine y_notV ?_ | with_reducible refine y_nil ?_ | with_reducible refine y_cons ?_ | with_reducible refine y_tup ?_ | with_reducible refine y_lst ?_ | with_reducible refine y_val ?_ | with_reducible refine y_loc ?_ | with_reducible refine y_dval ?_ | with_reducible refine y_dloc ?_ | with_reducible refine y_ice ?_ | with_reducible refine y_oNone ?_ | with_reducible refine y_oSome ?_ | with_reducible refine y_sl ?_ | with_reducible refine y_A ?_ | with_reducible refine y_call ?_ | with_reducible refine y_M ?_ | with_reducible refine y_aComp ?_ | with_reducible refine y_rng1 ?_ | with_reducible refine y_over ?_ | with_reducible refine y_addI ?_ | with_reducible refine y_subI ?_ | with_reducible refine y_ltI ?_ | with_reducible refine y_leI ?_ | with_reducible refine y_gtI ?_ | with_reducible refine y_geI ?_ | with_reducible refine y_eqI ?_ | with_reducible refine y_neI ?_ | with_reducible refine y_eqB ?_ | with_reducible refine y_neB ?_ | with_reducible refine y_eqS ?_ | with_reducible refine y_neS ?_ | with_reducible refine y_isN ?_ | with_reducible refine y_isnN ?_ | with_reducible refine y_wget ?_ | with_reducible refine y_mkx1 ?_ | with_reducible refine y_aAdd ?_ | with_reducible refine w_ln ?_ | with_reducible refine y_cn ?_ | with_reducible refine And.intro (len_ok (by with_unfolding_all exact rfl)) ?_)))
/-! ### chains made, chains with more steps -/
theorem law_chain {n : Nat} {ws : List Str} (hw : ∀ w ∈ ws, NmG w) (hwl : ws.length ≤ 18) {k dp l : Nat} {b : Int} {c : List Lit} {S : Sto} (t0 : Tape n b S) (hc : ClW ws c) (hb : b + 1000 * (2 * (l : Int) + 1) ≤ 2 ^ 100) (hl : l ≤ 20000) :
    Y (call (k + dp + 4) i_law_chain [.loc n, .lst (ws.map .str), clU c, .int (l : Int), .int (dp : Int)] S) fun u S' => ∃ (ss : List CStep) (cs0 : List (List Lit)), u = .tup [.lst (ss.map CStep.u), .lst ((cs0 ++ [c]).map clU)] ∧ ChOk ss (cs0 ++ [c]) ∧ (∀ c ∈ cs0, ClW ws c) ∧ (cs0 ++ [c]).length ≤ 2 * l + 1 ∧ Tape n (b + 1000 * (2 * (l : Int) + 1)) S' ∧ Fr [n] S S' := by
  refine y_run ?_
  show WS (b_law_chain (call (k + dp + 3)) [some (.loc n), some (.lst (ws.map .str)), some (clU c), some (.int (l : Int)), some (.int (dp : Int)), none] S) _
  unfold b_law_chain
  have hn := t0.lt
  refine w_seq (w_set ?_)
  refine Y.of (show fDloc (dDisp [((fC (.str "names")), (fVar 1)), ((fC (.str "steps")), (fLoc (aLst aNil))), ((fC (.str "clauses")), (fLoc (aLst aNil))), ((fC (.str "left")), (fVar 3))]) [some (.loc n), some (.lst (ws.map .str)), some (clU c), some (.int (l : Int)), some (.int (dp : Int)), none] S = .ok (.loc ((S ++ [Ob.lst []]) ++ [Ob.lst []]).length) (((S ++ [Ob.lst []]) ++ [Ob.lst []]) ++ [boxO ws S.length (S ++ [Ob.lst []]).length l]) from rfl) ?_
  have f1 : Fr [] S (((S ++ [Ob.lst []]) ++ [Ob.lst []]) ++ [boxO ws S.length (S ++ [Ob.lst []]).length l]) := (Fr.push.trans Fr.push).trans Fr.push
  have l1 : (S ++ [Ob.lst []]).length = S.length + 1 := by simp
  have l2 : ((S ++ [Ob.lst []]) ++ [Ob.lst []]).length = S.length + 2 := by simp
  have g1 : (((S ++ [Ob.lst []]) ++ [Ob.lst []]) ++ [boxO ws S.length (S ++ [Ob.lst []]).length l])[S.length]? = some (.lst []) := by simp
  have g2 : (((S ++ [Ob.lst []]) ++ [Ob.lst []]) ++ [boxO ws S.length (S ++ [Ob.lst []]).length l])[S.length + 1]? = some (.lst []) := by simp
  have g3 : (((S ++ [Ob.lst []]) ++ [Ob.lst []]) ++ [boxO ws S.length (S ++ [Ob.lst []]).length l])[S.length + 2]? = some (boxO ws S.length (S ++ [Ob.lst []]).length l) := by rw [← l2]; exact sto_snoc
  rw [l2]
  rw [l1] at g1 g2 g3 f1 ⊢
  generalize ((S ++ [Ob.lst []]) ++ [Ob.lst []]) ++ [boxO ws S.length (S.length + 1) l] = S1 at f1 g1 g2 g3 ⊢
  have hd : [n, S.length + 2, S.length, S.length + 1].Nodup := by
    simp only [List.nodup_cons, List.mem_cons, List.mem_nil_iff, or_false, not_or, List.nodup_nil, not_false_eq_true, and_true]
    refine ⟨⟨?_, ?_, ?_⟩, ⟨?_, ?_⟩, ?_⟩ <;> omega
  have bx : Bx n (S.length + 2) S.length (S.length + 1) b ws [] [] l S1 := ⟨t0.fr f1 (by simp), g3, g1, g2, chOk_nil, fun c hc => (by cases hc)⟩
  walk_at "wp"
  refine ⟨rfl, (law_grown hw hwl hd k dp bx hc (by omega) (by simp; omega)).mono ?_⟩
  rintro _ S2 ⟨i, ss, cs, l', rfl, hi, -, hl', hcl, h2, f2, hlast⟩
  obtain ⟨cs0, rfl⟩ : ∃ cs0, cs = cs0 ++ [c] := hlast.resolve_left fun z => by cases z
  obtain ⟨bx1, bx2, bx3, bx4⟩ := ix_box (n := n) (b := b) (ss := ss) (cs := cs0) h2.box
  refine w_ret (y_tup (y_cons (y_iceG ?_)))
  walk_at "wp"
  refine y_ix bx2 ⟨_, _, rfl, h2.st, fun S3 l3 f3 => ?_⟩
  have b3 := f3.get h2.box (by simp)
  have c3 := f3.get h2.cl (by simp)
  obtain ⟨bx1, bx2, bx3, bx4⟩ := ix_box (n := n) (b := b) (ss := ss) (cs := cs0) b3
  refine y_cons (y_iceG ?_)
  walk_at "wp"
  refine y_ix bx3 ⟨_, _, rfl, c3, fun S4 l4 f4 => ?_⟩
  walk_at "wp"
  have t4 := (h2.tape.fr f3 (by simp; omega)).fr f4 (by simp; omega)
  refine ⟨ss, cs0, rfl, h2.ok, fun q hq => h2.cw q (by simp [hq]), by simp only [List.length_nil] at hcl; omega, t4.mono (by omega), ?_⟩
  have ff : Fr [n, S.length + 2, S.length, S.length + 1] S1 S4 := (f2.trans (f3.more (by simp))).trans (f4.more (by simp))
  refine ⟨Nat.le_trans f1.1 ff.1, fun q hq hqn => ?_⟩
  rw [ff.2 q (Nat.lt_of_lt_of_le hq f1.1) (by simp at hqn ⊢; omega)]
  exact f1.2 q hq (by simp)
theorem zip_drop {ss : List CStep} {cs : List (List Lit)} {j : Nat} (h1 : j < ss.length) (h2 : j < cs.length) : zipU ((ss.drop j).map CStep.u) ((cs.drop j).map clU) = .tup [(ss[j]).u, clU cs[j]] :: zipU ((ss.drop (j + 1)).map CStep.u) ((cs.drop (j + 1)).map clU) := by
  rw [List.drop_eq_getElem_cons h1, List.drop_eq_getElem_cons h2]
  rfl
set_option maxHeartbeats 1000000 in
theorem law_padded {n : Nat} {ws : List Str} (hw : ∀ w ∈ ws, NmG w) (hwl : ws.length ≤ 18) (hnd : ws.Nodup) {k : Nat} {b : Int} {ss : List CStep} {cs : List (List Lit)} {S : Sto} (t0 : Tape n b S) (h : ChOk ss cs) (hcw : ∀ c ∈ cs, ClW ws c) (hl : ss.length ≤ 20000) (hb : b + 400 * (ss.length : Int) ≤ 2 ^ 100) :
    Y (call (k + 3) i_law_padded [.loc n, .lst (ss.map CStep.u), .lst (cs.map clU), .lst (ws.map .str)] S) fun u S' => ∃ (ss' : List CStep) (cs' : List (List Lit)), u = .tup [.lst (ss'.map CStep.u), .lst (cs'.map clU)] ∧ ChOk ss' cs' ∧ (∀ c ∈ cs', ClW ws c) ∧ cs'.length ≤ 2 * cs.length ∧ (cs ≠ [] → cs'.getLast? = cs.getLast?) ∧ Tape n (b + 400 * (ss.length : Int)) S' ∧ Fr [n] S S' := by
  refine y_run ?_
  show WS (b_law_padded (call (k + 2)) [some (.loc n), some (.lst (ss.map CStep.u)), some (.lst (cs.map clU)), some (.lst (ws.map .str)), none, none, none, none, none, none, none] S) _
  unfold b_law_padded
  have hn := t0.lt
  have hle := h.1
  refine w_seq (w_set (y_locG ?_))
  walk_at "wp"
  intro f S1 ef hf1 l1 f1
  refine w_seq (w_set (y_locG ?_))
  walk_at "wp"
  intro g S2 eg hg2 l2 f2
  have hf2 := f2.get hf1 (by simp)
  refine w_seq (w_set (y_locG ?_))
  walk_at "wp"
  intro p S3 ep hp3 l3 f3
  have hf3 := f3.get hf2 (by simp)
  have hg3 := f3.get hg2 (by simp)
  have fr3 : Fr [n] S S3 := ((f1.trans f2).trans f3).more (by simp)
  have t3 := ((t0.fr f1 (by simp)).fr f2 (by simp)).fr f3 (by simp)
  have hds : n ≠ f ∧ n ≠ g ∧ n ≠ p ∧ f ≠ g ∧ f ≠ p ∧ g ≠ p ∧ S.length ≤ f ∧ S.length ≤ g ∧ S.length ≤ p := by omega
  clear ef eg ep l1 l2 l3 f1 f2 f3 hf1 hf2 hg2
  obtain ⟨hnf, hng, hnp, hfg, hfp, hgp, nf, ng, np⟩ := hds
  walk_at "wp"
  refine Y.of (show aZip (aCons (fVar 1) (aCons (fVar 2) aNil)) [some (.loc n), some (.lst (ss.map CStep.u)), some (.lst (cs.map clU)), some (.lst (ws.map .str)), some (.loc f), some (.loc g), some (.loc p), none, none, none, none] S3 = .ok (zipU (ss.map CStep.u) (cs.map clU)) S3 from rfl) ?_
  refine w_loop (fun us d S4 => ∃ (j : Nat) (ss1 : List CStep) (cs1 : List (List Lit)) (ps : List Nat) (x7 x8 x9 x10 : Option U), us = zipU ((ss.drop j).map CStep.u) ((cs.drop j).map clU) ∧ j ≤ ss.length ∧ d = [some (.loc n), some (.lst (ss.map CStep.u)), some (.lst (cs.map clU)), some (.lst (ws.map .str)), some (.loc f), some (.loc g), some (.loc p), x7, x8, x9, x10] ∧
    S4[f]? = some (.lst (ss1.map CStep.u)) ∧ S4[g]? = some (.lst (cs1.map clU)) ∧ S4[p]? = some (.lst (ps.map fun (i : Nat) => U.int (i : Int))) ∧ ChOk ss1 cs1 ∧ (∀ c ∈ cs1, ClW ws c) ∧ cs1.length ≤ 2 * j ∧ ps.length = j ∧ (∀ (i q : Nat), ps[i]? = some q → cs1[q]? = cs[i]?) ∧ (∀ i, i + 1 = j → cs1.getLast? = cs[i]?) ∧ Tape n (b + 400 * (j : Int)) S4 ∧ Fr [n] S S4) ?_ ?_ _ _ _
    ⟨0, [], [], [], _, _, _, _, rfl, Nat.zero_le _, rfl, hf3, hg3, hp3, chOk_nil, fun c hc => (by cases hc), by simp, rfl, fun i q hq => (by simp at hq), fun i hi => absurd hi (Nat.succ_ne_zero i), t3.mono (by omega), fr3⟩
  · rintro u us _ S4 ⟨j, ss1, cs1, ps, x7, x8, x9, x10, e, hj, rfl, hf4, hg4, hp4, ok1, cw1, hl1, hpl, hpc, -, t4, f4⟩
    by_cases hj2 : j < ss.length
    case neg =>
      rw [List.drop_eq_nil_of_le (by omega)] at e
      cases e
    have hj3 : j < cs.length := by omega
    rw [zip_drop hj2 hj3] at e
    cases e
    obtain ⟨c, hcj, hs⟩ := h.2 j ss[j] (List.getElem?_eq_getElem hj2)
    rw [List.getElem?_eq_getElem hj3] at hcj
    have hcj := Option.some.inj hcj
    have hWc : ClW ws c := hcw c (by rw [← hcj]; exact List.getElem_mem hj3)
    rw [hcj]
    refine ⟨_, rfl, ?_⟩
    refine w_seq ?_
    -- more steps ahead of it
    refine WS.mono (D := { nx := fun d1 S5 => ∃ (ss2 : List CStep) (cs2 : List (List Lit)) (y9 y10 : Option U), d1 = [some (.loc n), some (.lst (ss.map CStep.u)), some (.lst (cs.map clU)), some (.lst (ws.map .str)), some (.loc f), some (.loc g), some (.loc p), some (ss[j]).u, some (clU c), y9, y10] ∧ S5[f]? = some (.lst (ss2.map CStep.u)) ∧ S5[g]? = some (.lst (cs2.map clU)) ∧ S5[p]? = some (.lst (ps.map fun (i : Nat) => U.int (i : Int))) ∧ ChOk ss2 cs2 ∧ (∀ c ∈ cs2, ClW ws c) ∧ cs2.length ≤ 2 * j + 1 ∧ cs1 <+: cs2 ∧ Tape n (b + 400 * (j : Int) + 400) S5 ∧ Fr [n] S S5, rt := fun _ _ => False }) ?_ (fun d S5 hh => ?_) (fun _ _ h => h.elim) (fun _ _ h => h.elim) (fun _ _ h => h.elim) (fun _ _ _ h => h.elim)
    · walk_at "wp"
      refine ⟨rfl, (draw t4 (by omega) (by decide) (by decide)).mono ?_⟩
      rintro _ S5 ⟨r5, rfl, r50, r51, t5, l5, f5⟩
      walk_at "wp"
      refine y_max ?_
      walk_at "wp"
      refine ⟨_, rfl, by split <;> omega, by split <;> omega, ?_⟩
      have hcnt : (if r5 - 4 > (0 : Int) then r5 - 4 else 0).toNat ≤ 1 := by split <;> omega
      generalize (if r5 - 4 > (0 : Int) then r5 - 4 else 0).toNat = cnt at hcnt ⊢
      refine w_loop (fun us d S6 => ∃ (ss2 : List CStep) (cs2 : List (List Lit)) (y9 y10 : Option U), d = [some (.loc n), some (.lst (ss.map CStep.u)), some (.lst (cs.map clU)), some (.lst (ws.map .str)), some (.loc f), some (.loc g), some (.loc p), some (ss[j]).u, some (clU c), y9, y10] ∧ S6[f]? = some (.lst (ss2.map CStep.u)) ∧ S6[g]? = some (.lst (cs2.map clU)) ∧ S6[p]? = some (.lst (ps.map fun (i : Nat) => U.int (i : Int))) ∧ ChOk ss2 cs2 ∧ (∀ c ∈ cs2, ClW ws c) ∧ us.length ≤ 1 ∧ cs2.length + us.length ≤ 2 * j + 1 ∧ cs1 <+: cs2 ∧ Tape n (b + 400 * (j : Int) + 30 + 300 * (1 - (us.length : Int))) S6 ∧ Fr [n] S S6) ?_ ?_ _ _ _
        ⟨ss1, cs1, _, _, rfl, f5.get hf4 (by simp; omega), f5.get hg4 (by simp; omega), f5.get hp4 (by simp; omega), ok1, cw1, by rw [rng_len]; exact hcnt, by rw [rng_len]; omega, List.prefix_refl _, t5.mono (by rw [rng_len]; omega), f4.trans f5⟩
      · rintro u us _ S6 ⟨ss2, cs2, y9, y10, rfl, hf6, hg6, hp6, ok2, cw2, hu1, hl2, pre, t6, f6⟩
        rw [List.length_cons] at hu1 hl2 t6
        refine ⟨_, rfl, ?_⟩
        walk_at "wp"
        refine ⟨rfl, (law_clause (k := k) (few := 4) t6 (by omega) (by decide) (by omega) (fun w h => (hw w h).1.1) hnd).mono ?_⟩
        rintro _ S7 ⟨c7, rfl, s7, w7, t7, f7⟩
        have W7 : ClW ws c7 := ⟨s7, w7⟩
        walk_at "wp"
        refine ⟨rfl, (draw t7 (by omega) (by decide) (by decide)).mono ?_⟩
        rintro _ S8 ⟨r8, rfl, r80, r81, t8, l8, f8⟩
        refine y_ixL r80 r81 fun u hu _ => ?_
        obtain ⟨c8, rfl, W8⟩ : ∃ c8, u = CStep.u (.giv c8) ∧ ClW ws c8 := by
          simp only [List.mem_cons, List.mem_nil_iff, or_false] at hu
          rcases hu with rfl | rfl
          · exact ⟨c, rfl, hWc⟩
          · exact ⟨c7, rfl, W7⟩
        have hf8 := f8.get (f7.get hf6 (by simp; omega)) (by simp; omega)
        have hg8 := f8.get (f7.get hg6 (by simp; omega)) (by simp; omega)
        have hp8 := f8.get (f7.get hp6 (by simp; omega)) (by simp; omega)
        walk_at "wp"
        refine ⟨ty_list hf8, ?_⟩
        walk_at "wp"
        refine y_appG hf8 (by rw [List.length_map, sizeL]; have := ok2.1; omega) fun S9 hf9 l9 f9 => ?_
        have hg9 := f9.get hg8 (by simp; omega)
        have hp9 := f9.get hp8 (by simp; omega)
        walk_at "wp"
        refine ⟨ty_list hg9, ?_⟩
        walk_at "wp"
        refine y_ix (u := clU c8) rfl ?_
        walk_at "wp"
        refine y_appG hg9 (by rw [List.length_map, sizeL]; omega) fun S10 hg10 l10 f10 => ?_
        have hf10 := f10.get hf9 (by simp; omega)
        have hp10 := f10.get hp9 (by simp; omega)
        have fall : Fr [n] S S10 := (((f6.trans (f7.trans f8)).thenNew f9 nf)).thenNew f10 ng
        refine ⟨ss2 ++ [.giv c8], cs2 ++ [c8], _, _, rfl, by rw [List.map_append]; exact hf10, by rw [List.map_append]; exact hg10, hp10, chOk_snoc ok2 ⟨W8.g hw hwl, rfl⟩, fun q hq => (List.mem_append.mp hq).elim (cw2 q) fun z => by rw [List.mem_singleton.mp z]; exact W8, by omega, by rw [List.length_append, List.length_singleton]; omega, pre.trans (List.prefix_append _ _), ((t8.fr f9 (by simp; omega)).fr f10 (by simp; omega)).mono (by omega), fall⟩
      · rintro d S6 ⟨ss2, cs2, y9, y10, rfl, hf6, hg6, hp6, ok2, cw2, hu1, hl2, pre, t6, f6⟩
        simp only [List.length_nil] at hl2 t6
        exact ⟨ss2, cs2, y9, y10, rfl, hf6, hg6, hp6, ok2, cw2, by omega, pre, t6.mono (by omega), f6⟩
    · obtain ⟨ss2, cs2, y9, y10, rfl, hf5, hg5, hp5, ok2, cw2, hl2, pre, t5, f5⟩ := hh
      have hpc2 : ∀ (i q : Nat), ps[i]? = some q → cs2[q]? = cs[i]? := fun i q hq => by
        have h1 := hpc i q hq
        have hi : i < cs.length := by have := (List.getElem?_eq_some_iff.mp hq).1; omega
        rw [List.getElem?_eq_getElem hi] at h1 ⊢
        obtain ⟨r, rfl⟩ := pre
        rw [List.getElem?_append_left (List.getElem?_eq_some_iff.mp h1).1]
        exact h1
      -- the step itself, its numbers told anew
      have key : ∃ s2 : CStep, StepOk s2 cs2 c ∧ Y (fIf (fB (f2 eqU (f2 ixU (fVar 7) (fC (.int 0))) (fC (.str "given")))) (fVar 7) (fTup (aCons (fC (.str "met")) (aCons (f2 ixU (fVar 6) (f2 ixU (fVar 7) (fC (.int 1)))) (aCons (f2 ixU (fVar 6) (f2 ixU (fVar 7) (fC (.int 2)))) (aCons (f2 ixU (fVar 7) (fC (.int 3))) aNil))))) [some (.loc n), some (.lst (ss.map CStep.u)), some (.lst (cs.map clU)), some (.lst (ws.map .str)), some (.loc f), some (.loc g), some (.loc p), some (ss[j]).u, some (clU c), y9, y10] S5) fun u S' => u = s2.u ∧ S' = S5 := by
        cases hsj : ss[j] with
        | giv c' =>
          rw [hsj] at hs
          have hs2 : c' = c := hs.2
          refine ⟨.giv c', ⟨hs.1, hs2⟩, ?_⟩
          refine y_if ?_
          walk_at "wp"
          refine y_ix (u := .str "given") rfl ?_
          walk_at "wp"
          refine ite_b (fun _ => ?_) (fun q => absurd q (by decide))
          walk_at "wp"
          exact ⟨rfl, rfl⟩
        | met i1 j1 m1 =>
          rw [hsj] at hs
          obtain ⟨hgc, a, b', ha, hb', hnm, hmt⟩ := hs
          have hi1 : i1 < j := by have := (List.getElem?_eq_some_iff.mp ha).1; rw [List.length_take] at this; omega
          have hj1 : j1 < j := by have := (List.getElem?_eq_some_iff.mp hb').1; rw [List.length_take] at this; omega
          rw [List.getElem?_take_of_lt hi1] at ha
          rw [List.getElem?_take_of_lt hj1] at hb'
          have pi : ps[i1]? = some ps[i1] := List.getElem?_eq_getElem (by omega)
          have pj : ps[j1]? = some ps[j1] := List.getElem?_eq_getElem (by omega)
          refine ⟨.met ps[i1] ps[j1] m1, ⟨hgc, a, b', (hpc2 _ _ pi).trans ha, (hpc2 _ _ pj).trans hb', hnm, hmt⟩, ?_⟩
          refine y_if ?_
          walk_at "wp"
          refine y_ix (u := .str "met") rfl ?_
          walk_at "wp"
          refine ite_b (fun q => absurd q (by decide)) (fun _ => ?_)
          walk_at "wp"
          refine y_ix (u := .int (i1 : Int)) rfl ?_
          refine y_ixLoc (u := .int (ps[i1] : Int)) hp5 (by rw [List.getElem?_map, pi]; rfl) ?_
          walk_at "wp"
          refine y_ix (u := .int (j1 : Int)) rfl ?_
          refine y_ixLoc (u := .int (ps[j1] : Int)) hp5 (by rw [List.getElem?_map, pj]; rfl) ?_
          walk_at "wp"
          refine y_ix (u := .str m1) rfl ?_
          walk_at "wp"
          exact ⟨rfl, rfl⟩
      obtain ⟨s2, hs2, key⟩ := key
      walk_at "wp"
      refine ⟨ty_list hf5, ?_⟩
      refine y_cons (key.mono ?_)
      rintro _ S6 ⟨rfl, hS⟩
      subst S6
      walk_at "wp"
      refine y_appG hf5 (by rw [List.length_map, sizeL]; have := ok2.1; omega) fun S6 hf6 l6 f6 => ?_
      have hg6 := f6.get hg5 (by simp; omega)
      have hp6 := f6.get hp5 (by simp; omega)
      walk_at "wp"
      refine ⟨ty_list hg6, ?_⟩
      walk_at "wp"
      refine y_appG hg6 (by rw [List.length_map, sizeL]; omega) fun S7 hg7 l7 f7 => ?_
      have hf7 := f7.get hf6 (by simp; omega)
      have hp7 := f7.get hp6 (by simp; omega)
      walk_at "wp"
      refine ⟨ty_list hp7, ?_⟩
      walk_at "wp"
      refine y_lenLc hf7 ?_
      walk_at "wp"
      refine y_appG hp7 (by rw [List.length_map, sizeL]; omega) fun S8 hp8 l8 f8 => ?_
      have hf8 := f8.get hf7 (by simp; omega)
      have hg8 := f8.get hg7 (by simp; omega)
      have fall : Fr [n] S S8 := ((f5.thenNew f6 nf).thenNew f7 ng).thenNew f8 np
      have hls : ss2.length = cs2.length := ok2.1
      refine ⟨j + 1, ss2 ++ [s2], cs2 ++ [c], ps ++ [cs2.length], _, _, _, _, rfl, hj2, rfl, by rw [List.map_append]; exact hf8, by rw [List.map_append]; exact hg8, ?_, chOk_snoc ok2 hs2, fun q hq => (List.mem_append.mp hq).elim (cw2 q) fun z => by rw [List.mem_singleton.mp z]; exact hWc, by rw [List.length_append, List.length_singleton]; omega, by rw [List.length_append, List.length_singleton]; omega, fun i q hq => ?_, fun i hi => ?_, (((t5.fr f6 (by simp; omega)).fr f7 (by simp; omega)).fr f8 (by simp; omega)).mono (by omega), fall⟩
      · rw [hp8, List.map_append, List.length_append, List.length_map]
        congr 3
        show [U.int ((((ss2.length + 1 : Nat) : Int)) - 1)] = [U.int (cs2.length : Int)]
        rw [hls]
        congr 2
        omega
      · by_cases hi : i < ps.length
        · rw [List.getElem?_append_left hi] at hq
          have h1 := hpc2 i q hq
          have hic : i < cs.length := by omega
          rw [List.getElem?_eq_getElem hic] at h1 ⊢
          rw [List.getElem?_append_left (List.getElem?_eq_some_iff.mp h1).1]
          exact h1
        · have hi2 : i = j := by
            have := (List.getElem?_eq_some_iff.mp hq).1
            rw [List.length_append, List.length_singleton] at this
            omega
          subst hi2
          rw [List.getElem?_append_right (by omega), hpl, Nat.sub_self] at hq
          cases hq
          rw [List.getElem?_append_right (Nat.le_refl _), Nat.sub_self, List.getElem?_eq_getElem hj3, hcj]
          rfl
      · have : i = j := by omega
        subst this
        rw [List.getLast?_append, List.getElem?_eq_getElem hj3, hcj]
        rfl
  · rintro d S4 ⟨j, ss1, cs1, ps, x7, x8, x9, x10, e, hj, rfl, hf4, hg4, hp4, ok1, cw1, hl1, hpl, hpc, hlast, t4, f4⟩
    have hj2 : j = ss.length := by
      by_cases hj2 : j < ss.length
      · rw [zip_drop hj2 (by omega)] at e
        cases e
      · omega
    subst hj2
    refine w_ret (y_tup (y_cons (y_iceG ?_)))
    walk_at "wp"
    refine ⟨_, _, rfl, hf4, fun S5 l5 f5 => ?_⟩
    have hg5 := f5.get hg4 (by simp; omega)
    refine y_cons (y_iceG ?_)
    walk_at "wp"
    refine ⟨_, _, rfl, hg5, fun S6 l6 f6 => ?_⟩
    walk_at "wp"
    refine ⟨ss1, cs1, rfl, ok1, cw1, by omega, fun hne => ?_, ((t4.fr f5 (by simp; omega)).fr f6 (by simp; omega)), (f4.thenNew f5 nf).thenNew f6 ng⟩
    have hp := List.length_pos_iff.mpr hne
    rw [hlast (ss.length - 1) (by omega), hle, List.getLast?_eq_getElem?]

end Law

set_option Elab.async false
set_option linter.all false
set_option maxRecDepth 100000
namespace Law
open PySem PySem.Spec L2 DL
local macro_rules | `(tactic| walk_at "wp") => `(tactic| (repeat (first | with_reducible refine w_seq ?_ | with_reducible refine w_set ?_ | with_reducible refine w_expr ?_ | with_reducible refine w_ret ?_ | with_reducible refine w_retN ?_ | with_reducible refine w_store ?_ | with_reducible refine w_nop ?_ | with_reducible refine w_for ?_ | with_reducible refine w_asg ?_ | with_reducible refine w_ct ?_ | with_reducible refine w_brk ?_ | with_reducible refine y_f2 ?_ | with_reducible refine y_C ?_ | with_reducible refine y_var (by with_unfolding_all exact rfl) ?_ | with_reducible refine y_f1 ?_ | with_reducible refine y_B ?_ | with_reducible refine y_unB ?_ | with_reducible refine y_ch ?_ | with_reducible refine y_tru ?_ | with_reducible refine y_tbl ?_ | with_reducible refine y_and ?_ | with_reducible refine y_or ?_ | with_reducible refine y_not ?_ | with_reducible refine y_andV ?_ | with_reducible refine y_notV ?_ | with_reducible refine y_nil ?_ | with_reducible refine y_cons ?_ | with_reducible refine y_tup ?_ | with_reducible refine y_lst ?_ | with_reducible refine y_val ?_ | with_reducible refine y_loc ?_ | with_reducible refine y_dval ?_ | with_reducible refine y_dloc ?_ | with_reducible refine y_ice ?_ | with_reducible refine y_oNone ?_ | with_reducible refine y_oSome ?_ | with_reducible refine y_sl ?_ | with_reducible refine y_A ?_ | with_reducible refine y_call ?_ | with_reducible refine y_M ?_ | with_reducible refine y_aComp ?_ | with_reducible refine y_rng1 ?_ | with_reducible refine y_over ?_ | with_reducible refine y_addI ?_ | with_reducible refine y_subI ?_ | with_reducible refine y_ltI ?_ | with_reducible refine y_leI ?_ | with_reducible refine y_gtI ?_ | with_reducible refine y_geI ?_ | with_reducible refine y_eqI ?_ | with_reducible refine y_neI ?_ | with_reducible refine y_eqB ?_ | with_reducible refine y_neB ?_ | with_reducible refine y_eqS ?_ | with_reducible refine y_neS ?_ | with_reducible refine y_isN ?_ | with_reducible refine y_isnN ?_ | with_reducible refine y_wget ?_ | with_reducible refine y_mkx1 ?_ | with_reducible refine y_aAdd ?_ | with_reducible refine w_ln ?_ | with_reducible refine y_cn ?_ | with_reducible refine And.intro (len_ok (by with_unfolding_all exact rfl)) ?_)))
/-! ### literals joined -/
theorem law_joined {k : Nat} {ls : List Lit} {S : Sto} (hl : ls.length ≤ 60) :
    Y (call (k + 1) i_law_joined [.tup (ls.map litU)] S) fun u S' => S' = S ∧ (u = .non ∨ ∃ ms : List Lit, u = .tup (ms.map litU) ∧ (∀ p ∈ ms, p ∈ ls) ∧ ms.length ≤ ls.length) := by
  refine y_run ?_
  show WS (b_law_joined (call k) [some (.tup (ls.map litU)), none, none, none, none] S) _
  unfold b_law_joined
  walk_at "wp"
  refine y_sortSetLits (by omega) fun ms hm hml => ?_
  walk_at "wp"
  refine ⟨_, rfl, ?_⟩
  refine y_compM (fun v => .str (nmU v)) _ _ ?_ (by rw [List.length_map, List.length_nil, sizeL]; omega) ?_
  · intro v hv
    obtain ⟨q, hq, rfl⟩ := List.mem_map.mp hv
    refine ⟨_, rfl, ?_⟩
    walk_at "wp"
    exact ⟨rfl, rfl⟩
  rw [List.nil_append, first_map, nm_lits]
  walk_at "wp"
  refine y_if ?_
  walk_at "wp"
  refine y_lenSetS (by rw [List.length_map]; omega) ?_
  walk_at "wp"
  refine y_lenS ?_
  walk_at "wp"
  refine ite_b (fun _ => ?_) (fun _ => ?_)
  · walk_at "wp"
    refine Y.of (show tupleC [.lst (ms.map litU)] S = .ok (.tup (ms.map litU)) S from rfl) ?_
    exact ⟨rfl, .inr ⟨ms, rfl, hm, hml⟩⟩
  · walk_at "wp"
    exact ⟨rfl, .inl rfl⟩

end Law

set_option Elab.async false
set_option linter.all false
set_option maxRecDepth 100000
namespace Law
open PySem PySem.Spec L2 DL
local macro_rules | `(tactic| walk_at "wp") => `(tactic| (repeat (first | with_reducible refine w_seq ?_ | with_reducible refine w_set ?_ | with_reducible refine w_expr ?_ | with_reducible refine w_ret ?_ | with_reducible refine w_retN ?_ | with_reducible refine w_store ?_ | with_reducible refine w_nop ?_ | with_reducible refine w_for ?_ | with_reducible refine w_asg ?_ | with_reducible refine w_ct ?_ | with_reducible refine w_brk ?_ | with_reducible refine y_f2 ?_ | with_reducible refine y_C ?_ | with_reducible refine y_var (by with_unfolding_all exact rfl) ?_ | with_reducible refine y_f1 ?_ | with_reducible refine y_B ?_ | with_reducible refine y_unB ?_ | with_reducible refine y_ch ?_ | with_reducible refine y_tru ?_ | with_reducible refine y_tbl ?_ | with_reducible refine y_and ?_ | with_reducible refine y_or ?_ | with_reducible refine y_not ?_ | with_reducible refine y_andV ?_ | with_reducible refine y_notV ?_ | with_reducible refine y_nil ?_ | with_reducible refine y_cons ?_ | with_reducible refine y_tup ?_ | with_reducible refine y_lst ?_ | with_reducible refine y_val ?_ | with_reducible refine y_loc ?_ | with_reducible refine y_dval ?_ | with_reducible refine y_dloc ?_ | with_reducible refine y_ice ?_ | with_reducible refine y_oNone ?_ | with_reducible refine y_oSome ?_ | with_reducible refine y_sl ?_ | with_reducible refine y_A ?_ | with_reducible refine y_call ?_ | with_reducible refine y_M ?_ | with_reducible refine y_aComp ?_ | with_reducible refine y_rng1 ?_ | with_reducible refine y_over ?_ | with_reducible refine y_addI ?_ | with_reducible refine y_subI ?_ | with_reducible refine y_ltI ?_ | with_reducible refine y_leI ?_ | with_reducible refine y_gtI ?_ | with_reducible refine y_geI ?_ | with_reducible refine y_eqI ?_ | with_reducible refine y_neI ?_ | with_reducible refine y_eqB ?_ | with_reducible refine y_neB ?_ | with_reducible refine y_eqS ?_ | with_reducible refine y_neS ?_ | with_reducible refine y_isN ?_ | with_reducible refine y_isnN ?_ | with_reducible refine y_wget ?_ | with_reducible refine y_mkx1 ?_ | with_reducible refine y_aAdd ?_ | with_reducible refine w_ln ?_ | with_reducible refine y_cn ?_ | with_reducible refine And.intro (len_ok (by with_unfolding_all exact rfl)) ?_)))
/-! ### the judge -/
theorem all_mem {α : Type} {l m : List α} (h : ∀ x, x ∈ l ↔ x ∈ m) (p : α → Bool) : l.all p = m.all p := by
  rw [Bool.eq_iff_iff, List.all_eq_true, List.all_eq_true]
  exact ⟨fun z x hx => z x ((h x).mpr hx), fun z x hx => z x ((h x).mp hx)⟩
theorem comes_to {k n : Nat} {ss : List CStep} {cs0 each : List (List Lit)} {c e : List Lit} {S : Sto} (hc : S[n]? = some (chainO ss (cs0 ++ [c]))) (hl : ss.length ≤ 1000) (hg : ∀ g ∈ givsOf ss, LOk g) (he : ∀ g ∈ each, LOk g) (hc1 : LOk c) (hc2 : c.length ≤ 1000) (he1 : LOk e) :
    Y (call (k + 2) i_comes_to [.loc n, .lst (each.map clU), clU e] S) fun u S' => u = .bl ((givsOf ss).all (fun g => decide (g ∈ each)) && c.all fun p => decide (p ∈ e)) ∧ S' = S := by
  refine y_run ?_
  show WS (b_comes_to (call (k + 1)) [some (.loc n), some (.lst (each.map clU)), some (clU e), none] S) _
  unfold b_comes_to
  walk_at "wp"
  refine y_meth ?_
  walk_at "wp"
  refine ⟨ins_ok hc rfl, ?_⟩
  walk_at "wp"
  refine ⟨rfl, (chain_givens hc hl).mono ?_⟩
  rintro _ S1 ⟨hS, gs, rfl, hm, hgl⟩
  subst S1
  refine ⟨_, rfl, ?_⟩
  refine y_compX clU (fun g => .bl (decide (g ∈ each))) gs [] (fun g hgm => ?_) (by rw [List.length_nil, sizeL]; omega) ?_
  · refine ⟨_, rfl, ?_⟩
    walk_at "wp"
    refine y_inCls (hg g ((hm g).mp hgm)) he ?_
    exact ⟨rfl, rfl⟩
  walk_at "wp"
  rw [List.nil_append]
  refine all_map (fun g => decide (g ∈ each)) ?_
  rw [all_mem hm]
  walk_at "wp"
  refine ite_b (fun q => ?_) (fun q => ?_)
  · walk_at "wp"
    refine y_meth ?_
    walk_at "wp"
    refine ⟨ins_ok hc rfl, ?_⟩
    walk_at "wp"
    refine ⟨rfl, (chain_last hc).mono ?_⟩
    rintro _ S1 ⟨rfl, hS⟩
    subst S1
    walk_at "wp"
    refine ⟨rfl, (is_part k hc2 hc1 he1).mono ?_⟩
    rintro _ S1 ⟨rfl, hS⟩
    exact ⟨by rw [q, Bool.true_and], hS⟩
  · exact ⟨by rw [q, Bool.false_and], rfl⟩
/-- the first step is a given one -/
theorem ChOk.first {ss : List CStep} {cs : List (List Lit)} (h : ChOk ss cs) (hn : ss ≠ []) : givsOf ss ≠ [] := by
  cases ss with
  | nil => exact absurd rfl hn
  | cons s ss =>
    obtain ⟨c, h1, h2, h3⟩ := h.2 0 s rfl
    cases s with
    | giv c' => exact List.ne_nil_of_mem (givs_mem.mpr List.mem_cons_self)
    | met i j n =>
      obtain ⟨a, b, ha, -⟩ := h3
      simp at ha
theorem bent_ok (c : List Lit) (h : LOk c) : LOk (c.map fun p => (p.1, !p.2)) := fun p hp => by
  obtain ⟨q, hq, rfl⟩ := List.mem_map.mp hp
  exact h q hq
theorem y_bent {gt : U → En → Option En} {g : FE} {d : En} {S : Sto} {Q : List U → Sto → Prop} {c : List Lit} (hl : c.length ≤ 1000) (hs : ∀ p ∈ c, ∃ d1, gt (litU p) d = some d1 ∧ Y (g d1 S) fun y S2 => y = litU (p.1, !p.2) ∧ S2 = S) (h : Q ((c.map fun p => ((p.1, !p.2) : Lit)).map litU) S) : Y (compF gt fYes g d (c.map litU) [] S) Q := by
  refine y_compX litU (fun p => litU (p.1, !p.2)) c [] hs (by rw [List.length_nil, sizeL]; omega) ?_
  rw [List.nil_append]
  rw [List.map_map] at h
  exact h
theorem cls_cut (cs : List (List Lit)) (r : Nat) : cutU (cs.map clU) (some (r : Int)) none = (cs.drop r).map clU := by rw [cut_suf, List.map_drop]
theorem cls_pre (cs : List (List Lit)) (r : Nat) : cutU (cs.map clU) none (some (r : Int)) = (cs.take r).map clU := by rw [cut_pre, List.map_take]
theorem lits_cut (c : List Lit) (r : Nat) : cutU (c.map litU) (some (r : Int)) none = (c.drop r).map litU := by rw [cut_suf, List.map_drop]
theorem lits_pre (c : List Lit) (r : Nat) : cutU (c.map litU) none (some (r : Int)) = (c.take r).map litU := by rw [cut_pre, List.map_take]
theorem lits_cut1 (c : List Lit) : cutU (c.map litU) (some 1) none = (c.drop 1).map litU := lits_cut c 1
theorem lits_pre1 (c : List Lit) : cutU (c.map litU) none (some 1) = (c.take 1).map litU := lits_pre c 1
theorem cls_cut1 (cs : List (List Lit)) (r : Nat) : cutU (cs.map clU) (some ((r : Int) + 1)) none = (cs.drop (r + 1)).map clU := cls_cut cs (r + 1)
theorem sub_ok {c c' : List Lit} (h : LOk c) (hs : ∀ p ∈ c', p ∈ c) : LOk c' := fun p hp => h p (hs p hp)
theorem lits_any (c : List Lit) (lo hi : Option Int) : ∃ c' : List Lit, cutU (c.map litU) lo hi = c'.map litU ∧ (∀ p ∈ c', p ∈ c) ∧ c'.length ≤ c.length := by
  unfold cutU
  rw [List.length_map, ← List.map_drop, ← List.map_take]
  exact ⟨_, rfl, fun p hp => List.mem_of_mem_drop (List.mem_of_mem_take hp), by rw [List.length_take, List.length_drop]; omega⟩
theorem ClG.plB {c : List Lit} (h : ClG c) : Pl 100000 3 (clU c) := Pl.ups (by decide) (by decide) (h.pl 0)
set_option maxHeartbeats 2000000 in
theorem law_holds (ns : List Int) (hn : ns.length ≤ 63) : ∃ S', call 60 i_law [.frz (ns.map .int)] [] = .ok (.bl true) S' := by
  suffices h : Y (call 60 i_law [.frz (ns.map .int)] []) fun u _ => u = .bl true by
    obtain ⟨u, S', e, rfl⟩ := h.ok
    exact ⟨S', e⟩
  refine y_run ?_
  show WS (b_law (call 59) [some (.frz (ns.map .int)), none, none, none, none, none, none, none, none, none, none, none, none, none, none, none, none, none, none, none, none, none, none, none, none, none, none] []) _
  unfold b_law
  walk_at "wp"
  refine ⟨rfl, (tape (k := 58) ns hn []).mono ?_⟩
  rintro _ S0 ⟨rfl, t0, -⟩
  generalize List.length ([] : Sto) = n at t0 ⊢
  walk_at "wp"
  refine ⟨rfl, (law_fresh (k := 56) (m := 6) t0 (by decide) (by decide)).mono ?_⟩
  rintro _ S1 ⟨ws, rfl, hws, hww, hnd, t1, f1⟩
  have hwl : ws.length ≤ 18 := by omega
  have hok : ∀ w ∈ ws, PyData.strOk w = true := fun w h => (hww w h).1.1
  walk_at "wp"
  refine ⟨6, rfl, by decide, by decide, ?_⟩
  refine w_loop (fun us d S2 => ∃ (j : Nat) (x3 x4 x5 x6 x7 x8 x9 x10 x11 x12 x13 x14 x15 x16 x17 x18 x19 x20 x21 x22 x23 x24 x25 x26 : Option U), d = [some (.frz (ns.map .int)), some (.loc n), some (.lst (ws.map .str)), x3, x4, x5, x6, x7, x8, x9, x10, x11, x12, x13, x14, x15, x16, x17, x18, x19, x20, x21, x22, x23, x24, x25, x26] ∧ us.length + j = 6 ∧ us = (List.range' j us.length).map (fun (i : Nat) => U.int (0 + (i : Int) * 1)) ∧ Tape n (3000 + 300000 * j) S2) ?_ ?_ _ _ _ ?_
  · rintro u us _ S2 ⟨j, x3, x4, x5, x6, x7, x8, x9, x10, x11, x12, x13, x14, x15, x16, x17, x18, x19, x20, x21, x22, x23, x24, x25, x26, rfl, hu, hus, t2⟩
    rw [List.length_cons] at hu hus
    rw [List.range'_succ, List.map_cons] at hus
    have hus2 := (List.cons.inj hus).2
    obtain rfl := (List.cons.inj hus).1
    refine ⟨_, rfl, ?_⟩
    walk_at "wp"
    refine ⟨rfl, (law_clause (k := 57) (few := 3) t2 (by omega) (by decide) (by omega) hok hnd).mono ?_⟩
    rintro _ S3 ⟨c0, rfl, s0, w0, t3, f3⟩
    walk_at "wp"
    refine y_modI (by decide) ?_
    refine y_ixL (by omega) (by show _ < (3 : Int); omega) fun u hu _ => ?_
    obtain ⟨l, rfl, hl40⟩ : ∃ l : Nat, u = .int (l : Int) ∧ l ≤ 40 := by
      simp only [List.mem_cons, List.mem_nil_iff, or_false] at hu
      rcases hu with rfl | rfl | rfl
      · exact ⟨3, rfl, by decide⟩
      · exact ⟨12, rfl, by decide⟩
      · exact ⟨40, rfl, by decide⟩
    walk_at "wp"
    refine ⟨rfl, (law_chain (k := 50) (dp := 5) hww hwl t3 ⟨s0, w0⟩ (by omega) (by omega)).mono ?_⟩
    rintro _ S4 ⟨ss, cs0, rfl, ok4, cw4, cl4, t4, f4⟩
    refine ⟨_, rfl, ?_⟩
    refine w_seq ?_
    refine WS.mono (D := { nx := fun d1 S5 => ∃ (ss : List CStep) (cs0 : List (List Lit)) (c : List Lit), d1 = [some (.frz (ns.map .int)), some (.loc n), some (.lst (ws.map .str)), some (.int (0 + (j : Int) * 1)), some (.lst (ss.map CStep.u)), some (.lst ((cs0 ++ [c]).map clU)), x6, x7, x8, x9, x10, x11, x12, x13, x14, x15, x16, x17, x18, x19, x20, x21, x22, x23, x24, x25, x26] ∧ ChOk ss (cs0 ++ [c]) ∧ (∀ q ∈ cs0 ++ [c], ClW ws q) ∧ (cs0 ++ [c]).length ≤ 200 ∧ Tape n (3000 + 300000 * j + 200000) S5, rt := fun _ _ => False }) ?_ (fun d S5 hh => ?_) (fun _ _ h => h.elim) (fun _ _ h => h.elim) (fun _ _ h => h.elim) (fun _ _ _ h => h.elim)
    · have cw4' : ∀ q ∈ cs0 ++ [c0], ClW ws q := fun q hq => (List.mem_append.mp hq).elim (cw4 q) fun z => by rw [List.mem_singleton.mp z]; exact ⟨s0, w0⟩
      refine w_if ?_
      walk_at "wp"
      refine ite_b (fun q => ?_) (fun q => ?_)
      · walk_at "wp"
        have hsl := ok4.1
        refine ⟨rfl, (law_padded hww hwl hnd t4 ok4 cw4' (by omega) (by omega)).mono ?_⟩
        rintro _ S5 ⟨ss5, cs5, rfl, ok5, cw5, cl5, la5, t5, f5⟩
        refine ⟨_, rfl, ?_⟩
        have hla := la5 (by simp)
        obtain ⟨cs1, c1, rfl⟩ : ∃ cs1 c1, cs5 = cs1 ++ [c1] := by
          rcases List.eq_nil_or_concat cs5 with e | ⟨a, b, e⟩
          · rw [e, List.getLast?_append] at hla
            cases hla
          · exact ⟨a, b, by rw [e, List.concat_eq_append]⟩
        exact ⟨ss5, cs1, c1, rfl, ok5, cw5, by omega, t5.mono (by omega)⟩
      · walk_at "wp"
        exact ⟨ss, cs0, c0, rfl, ok4, cw4', by omega, t4.mono (by omega)⟩
    obtain ⟨ss, cs0, c, rfl, ok5, cw5, cl5, t5⟩ := hh
    have hsl := ok5.1
    have hsn : ss ≠ [] := fun z => by
      rw [z] at hsl
      simp at hsl
    have gd := ok5.good
    have gc : ClG c := gd c (by simp)
    have hgv : ∀ g ∈ givsOf ss, ClG g := fun g hg => gd g (ok5.giv (givs_mem.mp hg))
    have hgl : (givsOf ss).length ≤ ss.length := List.length_filterMap_le _ _
    have hgn := ok5.first hsn
    refine w_seq (w_set (chain_make (k := 52) ok5 hsn (by omega) ?_))
    walk_at "wp"
    refine ⟨rfl, fun nc S6 enc hch f6 => ?_⟩
    have t6 := t5.fr f6 (by simp)
    have hnc : n ≠ nc := by have := t5.lt; omega
    walk_at "wp"
    refine ⟨_, rfl, ?_⟩
    refine y_compGiv (fun s hs => ?_) (by omega) ?_
    · refine ⟨_, rfl, ?_, fun hg => ?_⟩
      · refine y_B ?_
        cases s with
        | giv c =>
          walk_at "wp"
          refine y_ix (u := .str "given") rfl ?_
          walk_at "wp"
          exact ⟨by show decide (("given" : Str) = "given") = true; decide, rfl⟩
        | met i j n =>
          walk_at "wp"
          refine y_ix (u := .str "met") rfl ?_
          walk_at "wp"
          exact ⟨by show decide (("met" : Str) = "given") = false; decide, rfl⟩
      · cases s with
        | giv c =>
          walk_at "wp"
          refine y_ix (u := clU c) rfl ?_
          exact ⟨rfl, rfl⟩
        | met i j n => cases hg
    walk_at "wp"
    refine y_sortSetCls (by omega) fun gs hgs hgsl => ?_
    walk_at "wp"
    refine ⟨rfl, (draw t6 (by omega) (by decide) (by decide)).mono ?_⟩
    rintro _ S7 ⟨r7, rfl, r70, r71, t7, l7, f7⟩
    walk_at "wp"
    refine ⟨_, rfl, by omega, by omega, ?_⟩
    refine (y_comp (Q := fun us S8 => ∃ ms : List (List Lit), us = ms.map clU ∧ (∀ m ∈ ms, ClW ws m) ∧ ms.length ≤ 4 ∧ Tape n (3000 + 300000 * (j : Int) + 210000) S8 ∧ S8[nc]? = some (chainO ss (cs0 ++ [c])))
      (fun us acc S8 => ∃ ms : List (List Lit), acc = ms.map clU ∧ (∀ m ∈ ms, ClW ws m) ∧ us.length + ms.length ≤ 4 ∧ Tape n (3000 + 300000 * (j : Int) + 200030 + 300 * (ms.length : Int)) S8 ∧ S8[nc]? = some (chainO ss (cs0 ++ [c]))) ?_ ?_ _ _ _ ⟨[], rfl, fun m hm => (by cases hm), by rw [rng_len, List.length_nil]; omega, t7.mono (by simp only [List.length_nil]; omega), f7.get hch (by simp; omega)⟩).mono ?_
    · rintro u us _ S8 ⟨ms, rfl, hms, hml, t8, h8⟩
      rw [List.length_cons] at hml
      refine ⟨by rw [List.length_map, sizeL]; omega, _, rfl, y_ok ?_⟩
      rw [if_pos rfl]
      walk_at "wp"
      refine ⟨rfl, (law_clause (k := 57) (few := 4) t8 (by omega) (by decide) (by omega) hok hnd).mono ?_⟩
      rintro _ S9 ⟨m9, rfl, s9, w9, t9, f9⟩
      exact ⟨ms ++ [m9], by rw [List.map_append]; rfl, fun m hm => (List.mem_append.mp hm).elim (hms m) fun z => by rw [List.mem_singleton.mp z]; exact ⟨s9, w9⟩, by rw [List.length_append, List.length_singleton]; omega, t9.mono (by rw [List.length_append, List.length_singleton]; omega), f9.get h8 (by simp; omega)⟩
    · rintro _ S8 ⟨ms, rfl, hms, hml, t8, h8⟩
      simp only [List.length_nil] at hml
      exact ⟨ms, rfl, hms, by omega, t8.mono (by omega), h8⟩
    rintro _ S8 ⟨ms, rfl, hms, hml, t8, h8⟩
    walk_at "wp"
    refine y_addL (by rw [List.length_map, List.length_map, sizeL]; omega) ?_
    rw [← List.map_append]
    have hsm : ∀ q ∈ gs ++ ms, ClG q := fun q hq => (List.mem_append.mp hq).elim (fun z => hgv q ((hgs q).mp z)) fun z => (hms q z).g hww hwl
    have hsm0 : 0 < (gs ++ ms).length := by
      obtain ⟨g, hg⟩ := List.exists_mem_of_ne_nil _ hgn
      exact List.length_pos_of_mem (List.mem_append.mpr (.inl ((hgs g).mpr hg)))
    have hsml : (gs ++ ms).length ≤ 204 := by rw [List.length_append]; omega
    generalize gs ++ ms = sm at hsm hsm0 hsml ⊢
    walk_at "wp"
    refine y_lenL ?_
    rw [List.length_map]
    walk_at "wp"
    refine ⟨rfl, (draw t8 (by omega) (by omega) (by omega)).mono ?_⟩
    rintro _ S9 ⟨r9, rfl, r90, r91, t9, l9, f9⟩
    obtain ⟨r9, rfl⟩ := Int.eq_ofNat_of_zero_le r90
    have h9 := f9.get h8 (by simp; omega)
    walk_at "wp"
    refine ⟨_, rfl, ?_⟩
    walk_at "wp"
    refine y_slL ?_
    rw [cls_cut]
    walk_at "wp"
    refine ⟨_, rfl, ?_⟩
    refine y_slL ?_
    rw [cls_pre]
    refine y_addL (by rw [List.length_map, List.length_map, List.length_drop, List.length_take, sizeL]; omega) ?_
    rw [← List.map_append]
    have hrm : ∀ q ∈ sm.drop r9 ++ sm.take r9, ClG q := fun q hq => (List.mem_append.mp hq).elim (fun z => hsm q (List.mem_of_mem_drop z)) fun z => hsm q (List.mem_of_mem_take z)
    have hrl : (sm.drop r9 ++ sm.take r9).length = sm.length := by rw [List.length_append, List.length_drop, List.length_take]; omega
    generalize sm.drop r9 ++ sm.take r9 = rm at hrm hrl ⊢
    walk_at "wp"
    refine y_lenL ?_
    rw [List.length_map]
    walk_at "wp"
    refine ⟨rfl, (draw t9 (by omega) (by omega) (by omega)).mono ?_⟩
    rintro _ S10 ⟨r10, rfl, r100, r101, t10, l10, f10⟩
    obtain ⟨r10, rfl⟩ := Int.eq_ofNat_of_zero_le r100
    have h10 := f10.get h9 (by simp; omega)
    have hr10 : r10 < rm.length := by omega
    walk_at "wp"
    refine y_ixLst (u := clU rm[r10]) (by rw [List.getElem?_map, List.getElem?_eq_getElem hr10]; rfl) ?_
    have go := hrm _ (List.getElem_mem hr10)
    generalize rm[r10] = ou at go ⊢
    have gol := go.2.2
    walk_at "wp"
    refine ⟨_, rfl, ?_⟩
    refine y_slT ?_
    rw [lits_pre1]
    refine ⟨_, rfl, ?_⟩
    refine y_bent (by rw [List.length_take]; omega) (fun p hp => ?_) ?_
    · refine ⟨_, rfl, ?_⟩
      walk_at "wp"
      exact ⟨rfl, rfl⟩
    walk_at "wp"
    refine Y.of (show tupleC [.lst (((ou.take 1).map fun p => ((p.1, !p.2) : Lit)).map litU)] S10 = .ok (clU ((ou.take 1).map fun p => ((p.1, !p.2) : Lit))) S10 from rfl) ?_
    walk_at "wp"
    refine ⟨_, rfl, ?_⟩
    walk_at "wp"
    refine y_slT ?_
    rw [lits_cut1]
    refine y_addT (by rw [List.length_map, List.length_map, List.length_map, List.length_drop, List.length_take, sizeL]; omega) ?_
    rw [← List.map_append]
    have hbt : LOk ((ou.take 1).map (fun p => ((p.1, !p.2) : Lit)) ++ ou.drop 1) := fun p hp => by
      rcases List.mem_append.mp hp with z | z
      · exact bent_ok _ (sub_ok go.ok fun q hq => List.mem_of_mem_take hq) p z
      · exact go.ok p (List.mem_of_mem_drop z)
    generalize (ou.take 1).map (fun p => ((p.1, !p.2) : Lit)) ++ ou.drop 1 = bt at hbt ⊢
    walk_at "wp"
    refine y_rev ?_
    walk_at "wp"
    refine ⟨_, rfl, ?_⟩
    rw [← List.map_reverse]
    walk_at "wp"
    refine ⟨_, rfl, ?_⟩
    refine y_slL ?_
    rw [cls_pre]
    walk_at "wp"
    refine ⟨_, rfl, ?_⟩
    walk_at "wp"
    refine y_slL ?_
    rw [cls_cut1]
    refine y_addL (by rw [List.length_map, List.length_map, List.length_drop, List.length_take, sizeL]; omega) ?_
    rw [← List.map_append]
    walk_at "wp"
    refine ⟨_, rfl, ?_⟩
    refine y_slL ?_
    rw [cls_pre]
    walk_at "wp"
    refine y_addL (by rw [List.length_map, List.length_take, sizeL]; show min r10 rm.length + 1 ≤ _; omega) ?_
    rw [show (rm.take r10).map clU ++ [.tup (bt.map litU)] = (rm.take r10 ++ [bt]).map clU from by rw [List.map_append]; rfl]
    walk_at "wp"
    refine ⟨_, rfl, ?_⟩
    walk_at "wp"
    refine y_slL ?_
    rw [cls_cut1]
    refine y_addL (by rw [List.length_map, List.length_append, List.length_map, List.length_drop, List.length_take, sizeL]; show min r10 rm.length + 1 + _ ≤ _; omega) ?_
    rw [← List.map_append]
    walk_at "wp"
    refine y_addL (by rw [List.length_map, sizeL]; omega) ?_
    rw [← List.map_append]
    walk_at "wp"
    -- the lists
    have eLs : ∃ Ls : List (List (List Lit)), [U.lst (rm.map clU), .lst (rm.reverse.map clU), .lst ((rm.take r10 ++ rm.drop (r10 + 1)).map clU), .lst ((rm.take r10 ++ [bt] ++ rm.drop (r10 + 1)).map clU), .lst ((rm ++ rm).map clU), .lst []] = Ls.map (fun L => U.lst (L.map clU)) ∧ ∀ L ∈ Ls, (∀ q ∈ L, LOk q) ∧ L.length ≤ 1000 := by
      have o1 : ∀ q ∈ rm, LOk q := fun q hq => (hrm q hq).ok
      refine ⟨[rm, rm.reverse, rm.take r10 ++ rm.drop (r10 + 1), rm.take r10 ++ [bt] ++ rm.drop (r10 + 1), rm ++ rm, []], rfl, fun L hL => ?_⟩
      simp only [List.mem_cons, List.mem_nil_iff, or_false] at hL
      rcases hL with rfl | rfl | rfl | rfl | rfl | rfl
      · exact ⟨o1, by omega⟩
      · exact ⟨fun q hq => o1 q (List.mem_reverse.mp hq), by rw [List.length_reverse]; omega⟩
      · exact ⟨fun q hq => (List.mem_append.mp hq).elim (fun z => o1 q (List.mem_of_mem_take z)) fun z => o1 q (List.mem_of_mem_drop z), by rw [List.length_append, List.length_take, List.length_drop]; omega⟩
      · refine ⟨fun q hq => ?_, by rw [List.length_append, List.length_append, List.length_take, List.length_drop]; show min r10 rm.length + 1 + _ ≤ _; omega⟩
        rcases List.mem_append.mp hq with z | z
        · rcases List.mem_append.mp z with z | z
          · exact o1 q (List.mem_of_mem_take z)
          · rw [List.mem_singleton.mp z]; exact hbt
        · exact o1 q (List.mem_of_mem_drop z)
      · exact ⟨fun q hq => (List.mem_append.mp hq).elim (o1 q) (o1 q), by rw [List.length_append]; omega⟩
      · exact ⟨fun q hq => (by cases hq), by simp⟩
    obtain ⟨Ls, eLs, hLs⟩ := eLs
    rw [eLs]
    clear eLs
    have Wc := cw5 c (by simp)
    have lc6 := Wc.len
    refine y_negI ?_
    refine y_ix (u := clU c) (show atI ((cs0 ++ [c]).map clU) (-1) = some (clU c) by rw [List.map_append]; exact atI_neg _ _) ?_
    refine w_seq (w_set (y_locG ?_))
    refine y_lst (y_cons ?_)
    walk_at "wp"
    refine Y.mono (P := fun u S' => ∃ m : List Lit, u = clU m ∧ LOk m ∧ Tape n (3000 + 300000 * (j : Int) + 220000) S' ∧ S'[nc]? = some (chainO ss (cs0 ++ [c]))) ?_ ?_
    · refine y_orV ?_
      walk_at "wp"
      refine ⟨rfl, (law_clause (k := 57) (few := 5) t10 (by omega) (by decide) (by omega) hok hnd).mono ?_⟩
      rintro _ S11 ⟨m11, rfl, s11, w11, t11, f11⟩
      have W11 : ClW ws m11 := ⟨s11, w11⟩
      have l11 := W11.len
      have h11 := f11.get h10 (by simp; omega)
      walk_at "wp"
      refine y_addT (by rw [List.length_map, List.length_map, sizeL]; omega) ?_
      rw [← List.map_append]
      refine ⟨rfl, (law_joined (k := 58) (by rw [List.length_append]; omega)).mono ?_⟩
      rintro u S12 ⟨hS, hj⟩
      subst S12
      have tE := t11.mono (b' := 3000 + 300000 * (j : Int) + 220000) (by omega)
      have c1 : ∃ m : List Lit, clU c = clU m ∧ LOk m ∧ Tape n (3000 + 300000 * (j : Int) + 220000) S11 ∧ S11[nc]? = some (chainO ss (cs0 ++ [c])) := ⟨c, rfl, gc.ok, tE, h11⟩
      rcases hj with rfl | ⟨m, rfl, hm, -⟩
      · refine y_oB (b := false) rfl ?_
        refine ite_b (fun q => by cases q) (fun _ => ?_)
        walk_at "wp"
        exact c1
      · cases m with
        | nil =>
          refine y_oB (b := false) rfl ?_
          refine ite_b (fun q => by cases q) (fun _ => ?_)
          walk_at "wp"
          exact c1
        | cons p m =>
          refine y_oB (b := true) rfl ?_
          refine ite_b (fun _ => ?_) (fun q => by cases q)
          refine ⟨p :: m, rfl, fun q hq => ?_, tE, h11⟩
          rcases List.mem_append.mp (hm q hq) with z | z
          · exact gc.ok q z
          · exact (W11.g hww hwl).ok q z
    rintro _ S11 ⟨m, rfl, om, t11, h11⟩
    walk_at "wp"
    refine ⟨_, rfl, ?_⟩
    walk_at "wp"
    refine y_slT ?_
    rw [lits_cut1]
    walk_at "wp"
    refine y_negI ?_
    refine ⟨_, rfl, ?_⟩
    refine y_slT ?_
    obtain ⟨c', ec, hc', -⟩ := lits_any c none (some (-1))
    rw [ec]
    walk_at "wp"
    intro fe S12 efe he12 l12 f12
    have t12 := t11.fr f12 (by simp)
    have h12 := f12.get h11 (by simp)
    have hlt := (List.getElem?_eq_some_iff.mp h11).1
    have hne : n ≠ fe ∧ nc ≠ fe := by have := t11.lt; omega
    walk_at "wp"
    refine ⟨ty_list he12, ?_⟩
    walk_at "wp"
    refine ⟨_, rfl, ?_⟩
    refine y_bent (by omega) (fun p hp => ?_) ?_
    · refine ⟨_, rfl, ?_⟩
      walk_at "wp"
      exact ⟨rfl, rfl⟩
    walk_at "wp"
    refine Y.of (show tupleC [.lst ((c.map fun p => ((p.1, !p.2) : Lit)).map litU)] S12 = .ok (clU (c.map fun p => ((p.1, !p.2) : Lit))) S12 from rfl) ?_
    walk_at "wp"
    refine y_appG he12 (by show 5 < sizeLine; decide) fun S13 he13 l13 f13 => ?_
    have t13 := t12.fr f13 (by simp; omega)
    have h13 := f13.get h12 (by simp; omega)
    -- the ends
    have eEs : ∃ Es : List (List Lit), ([clU c, clU m, .tup ((c.drop 1).map litU), .tup (c'.map litU), .tup []] ++ [clU (c.map fun p => ((p.1, !p.2) : Lit))]) = Es.map clU ∧ ∀ e ∈ Es, LOk e := by
      refine ⟨[c, m, c.drop 1, c', [], c.map fun p => ((p.1, !p.2) : Lit)], rfl, fun e he => ?_⟩
      simp only [List.mem_cons, List.mem_nil_iff, or_false] at he
      rcases he with rfl | rfl | rfl | rfl | rfl | rfl
      · exact gc.ok
      · exact om
      · exact sub_ok gc.ok fun p hp => List.mem_of_mem_drop hp
      · exact sub_ok gc.ok hc'
      · exact fun p hp => (by cases hp)
      · exact bent_ok _ gc.ok
    obtain ⟨Es, eEs, hEs⟩ := eEs
    replace he13 : S13[fe]? = some (.lst (Es.map clU)) := by rw [← eEs]; exact he13
    clear eEs
    refine w_seq (w_iceG (n := fe) rfl he13 fun S14 l14 f14 => ?_)
    have t14 := t13.fr f14 (by simp; omega)
    have h14 := f14.get h13 (by simp; omega)
    walk_at "wp"
    refine ⟨_, rfl, ?_⟩
    refine w_loop (fun us d S15 => S15 = S14 ∧ ∃ (Ms : List (List (List Lit))) (y16 y17 y19 y20 y21 : Option U), us = Ms.map (fun L => U.lst (L.map clU)) ∧ (∀ L ∈ Ms, (∀ q ∈ L, LOk q) ∧ L.length ≤ 1000) ∧ d = [some (.frz (ns.map .int)), some (.loc n), some (.lst (ws.map .str)), some (.int (0 + (j : Int) * 1)), some (.lst (ss.map CStep.u)), some (.lst ((cs0 ++ [c]).map clU)), some (.loc nc), some (.lst ((givsOf ss).map clU)), some (.lst (rm.map clU)), some (.int (r9 : Int)), some (.int (r10 : Int)), some (clU ou), some (clU bt), some (.lst (Ls.map fun L => U.lst (L.map clU))), some (clU c), some (.lst (Es.map clU)), y16, y17, x18, y19, y20, y21, x22, x23, x24, x25, x26]) ?_ ?_ _ _ _ ⟨rfl, Ls, _, _, _, _, _, rfl, hLs, rfl⟩
    · rintro u us _ S15 ⟨hS, Ms, y16, y17, y19, y20, y21, e, hMs, rfl⟩
      subst S15
      cases Ms with
      | nil => cases e
      | cons L Ms =>
      cases e
      obtain ⟨hLo, hLl⟩ := hMs L List.mem_cons_self
      refine ⟨_, rfl, ?_⟩
      walk_at "wp"
      refine ⟨_, rfl, ?_⟩
      refine w_loop (fun us d S15 => S15 = S14 ∧ ∃ (Ns : List (List Lit)) (y17 y19 y20 y21 : Option U), us = Ns.map clU ∧ (∀ e ∈ Ns, LOk e) ∧ d = [some (.frz (ns.map .int)), some (.loc n), some (.lst (ws.map .str)), some (.int (0 + (j : Int) * 1)), some (.lst (ss.map CStep.u)), some (.lst ((cs0 ++ [c]).map clU)), some (.loc nc), some (.lst ((givsOf ss).map clU)), some (.lst (rm.map clU)), some (.int (r9 : Int)), some (.int (r10 : Int)), some (clU ou), some (clU bt), some (.lst (Ls.map fun L => U.lst (L.map clU))), some (clU c), some (.lst (Es.map clU)), some (.lst (L.map clU)), y17, x18, y19, y20, y21, x22, x23, x24, x25, x26]) ?_ ?_ _ _ _ ⟨rfl, Es, _, _, _, _, rfl, hEs, rfl⟩
      · rintro u us _ S15 ⟨hS, Ns, y17, y19, y20, y21, e, hNs, rfl⟩
        subst S15
        cases Ns with
        | nil => cases e
        | cons en Ns =>
        cases e
        have heo := hNs en List.mem_cons_self
        refine ⟨_, rfl, ?_⟩
        walk_at "wp"
        refine ⟨_, rfl, ?_⟩
        refine y_compFX clU (fun g => !decide (g ∈ L)) clU (givsOf ss) [] (fun g hg => ?_) (by rw [List.length_nil, sizeL]; omega) ?_
        · refine ⟨_, rfl, ?_, fun _ => ?_⟩
          · refine y_B ?_
            walk_at "wp"
            refine y_ninCls (hgv g hg).ok hLo ?_
            walk_at "wp"
            exact ⟨rfl, rfl⟩
          · walk_at "wp"
            exact ⟨rfl, rfl⟩
        rw [List.nil_append]
        walk_at "wp"
        refine ⟨_, rfl, ?_⟩
        refine y_compFX litU (fun p => !decide (p ∈ en)) litU c [] (fun p hp => ?_) (by rw [List.length_nil, sizeL]; omega) ?_
        · refine ⟨_, rfl, ?_, fun _ => ?_⟩
          · refine y_B ?_
            walk_at "wp"
            refine y_ninLits (gc.ok p hp) heo ?_
            walk_at "wp"
            exact ⟨rfl, rfl⟩
          · walk_at "wp"
            exact ⟨rfl, rfl⟩
        rw [List.nil_append]
        have k1 := List.length_filter_le (fun g => !decide (g ∈ L)) (givsOf ss)
        have k2 := List.length_filter_le (fun p => !decide (p ∈ en)) c
        refine y_addL (by rw [List.length_map, List.length_map, sizeL]; omega) ?_
        walk_at "wp"
        have ple : Pl 100000 4 (.lst (((givsOf ss).filter fun g => !decide (g ∈ L)).map clU ++ (c.filter fun p => !decide (p ∈ en)).map litU)) := by
          unfold Pl
          refine ⟨by rw [List.length_append, List.length_map, List.length_map]; omega, fun u hu => ?_⟩
          rcases List.mem_append.mp hu with z | z
          · obtain ⟨g, hg, rfl⟩ := List.mem_map.mp z
            exact (hgv g (List.mem_filter.mp hg).1).plB
          · obtain ⟨p, hp, rfl⟩ := List.mem_map.mp z
            exact lit_pl (gc.2.1 p (List.mem_filter.mp hp).1).1 _ (by decide) 2
        refine y_eqLE ple (by decide) ?_
        have eDue : (((givsOf ss).filter fun g => !decide (g ∈ L)).map clU ++ (c.filter fun p => !decide (p ∈ en)).map litU).isEmpty = ((givsOf ss).all (fun g => decide (g ∈ L)) && c.all fun p => decide (p ∈ en)) := by
          have h1 : ∀ {α : Type} (l : List α) (p : α → Bool), (l.filter fun x => !p x).isEmpty = l.all p := fun l p => by
            rw [Bool.eq_iff_iff, List.isEmpty_iff, List.filter_eq_nil_iff, List.all_eq_true]
            exact ⟨fun z x hx => by have := z x hx; simpa using this, fun z x hx => by rw [z x hx]; decide⟩
          rw [← h1, ← h1]
          cases (givsOf ss).filter fun g => !decide (g ∈ L) with
          | nil => cases c.filter fun p => !decide (p ∈ en) <;> rfl
          | cons a l => rfl
        rw [eDue]
        walk_at "wp"
        refine Y.of (show listC [.lst (L.map clU)] S14 = .ok (L.map clU) S14 from rfl) ?_
        walk_at "wp"
        refine ⟨rfl, (comes_to (k := 57) h14 (by omega) (fun g hg => (hgv g hg).ok) hLo gc.ok (by omega) heo).mono ?_⟩
        rintro _ S15 ⟨rfl, hS⟩
        subst S15
        walk_at "wp"
        refine w_ifP (fun t => t = false) ?_ (fun q => by cases q) (fun _ => ?_)
        · walk_at "wp"
          refine Y.of (show isiC [.bl ((givsOf ss).all (fun g => decide (g ∈ L)) && c.all fun p => decide (p ∈ en)), .ty "bool"] S14 = .ok (.bl true) S14 from rfl) ?_
          walk_at "wp"
          refine ite_b (fun q => by cases q) (fun _ => ?_)
          walk_at "wp"
          rw [beq_self_eq_true]
          refine ite_b (fun q => by cases q) (fun _ => ?_)
          walk_at "wp"
          refine y_neCls hLo hLo ?_
          rw [decide_eq_true rfl]
          walk_at "wp"
          exact ⟨rfl, rfl⟩
        · walk_at "wp"
          exact ⟨rfl, Ns, _, _, _, _, rfl, fun e he => hNs e (List.mem_cons_of_mem _ he), rfl⟩
      · rintro d S15 ⟨hS, Ns, y17, y19, y20, y21, e, hNs, rfl⟩
        subst S15
        exact ⟨rfl, Ms, _, _, _, _, _, rfl, fun M hM => hMs M (List.mem_cons_of_mem _ hM), rfl⟩
    · rintro d S15 ⟨hS, Ms, y16, y17, y19, y20, y21, e, hMs, rfl⟩
      subst S15
      exact ⟨j + 1, _, _, _, _, _, _, _, _, _, _, _, _, _, _, _, _, _, _, _, _, _, _, _, _, rfl, by omega, hus2, t14.mono (by omega)⟩
  · rintro d S2 ⟨j, x3, x4, x5, x6, x7, x8, x9, x10, x11, x12, x13, x14, x15, x16, x17, x18, x19, x20, x21, x22, x23, x24, x25, x26, rfl, hu, -, t2⟩
    walk_at "wp"
    rfl
  · refine ⟨0, _, _, _, _, _, _, _, _, _, _, _, _, _, _, _, _, _, _, _, _, _, _, _, _, rfl, by rw [rng_len]; rfl, ?_, t1.mono (by decide)⟩
    rw [rng_len]
    unfold rngU
    rw [List.range_eq_range']

end Law

set_option Elab.async false
set_option linter.all false
set_option maxRecDepth 100000
namespace Law
open PySem PySem.Spec L2 DL
/-! ### the end -/
theorem all_mk {w : World} {K : PySem.W.Frag} {h : Heap} {mg : Str → Option Value} {fa : Addr} (X : K.In h) (G : h.Ns mainGlobals mg) (hfa : mg "law" = some (.ref fa))
    {x_is_word : Addr} {od_is_word an_is_word : Option Addr} {sl_is_word : Array (Option Value)} {oc_is_word kV_is_word dc_is_word pm_is_word cd_is_word ct_is_word : Value}
    {x_is_name : Addr} {od_is_name an_is_name : Option Addr} {sl_is_name : Array (Option Value)} {oc_is_name kV_is_name dc_is_name pm_is_name cd_is_name ct_is_name : Value}
    {x_is_literal : Addr} {od_is_literal an_is_literal : Option Addr} {sl_is_literal : Array (Option Value)} {oc_is_literal kV_is_literal dc_is_literal pm_is_literal cd_is_literal ct_is_literal : Value}
    {x_is_clause : Addr} {od_is_clause an_is_clause : Option Addr} {sl_is_clause : Array (Option Value)} {oc_is_clause kV_is_clause dc_is_clause pm_is_clause cd_is_clause ct_is_clause : Value}
    {x_clause_of : Addr} {od_clause_of an_clause_of : Option Addr} {sl_clause_of : Array (Option Value)} {oc_clause_of kV_clause_of dc_clause_of pm_clause_of cd_clause_of ct_clause_of : Value}
    {x_is_part : Addr} {od_is_part an_is_part : Option Addr} {sl_is_part : Array (Option Value)} {oc_is_part kV_is_part dc_is_part pm_is_part cd_is_part ct_is_part : Value}
    {x_is_number : Addr} {od_is_number an_is_number : Option Addr} {sl_is_number : Array (Option Value)} {oc_is_number kV_is_number dc_is_number pm_is_number cd_is_number ct_is_number : Value}
    {x_met_clause : Addr} {od_met_clause an_met_clause : Option Addr} {sl_met_clause : Array (Option Value)} {oc_met_clause kV_met_clause dc_met_clause pm_met_clause cd_met_clause ct_met_clause : Value}
    {x_clause_of_step : Addr} {od_clause_of_step an_clause_of_step : Option Addr} {sl_clause_of_step : Array (Option Value)} {oc_clause_of_step kV_clause_of_step dc_clause_of_step pm_clause_of_step cd_clause_of_step ct_clause_of_step : Value}
    {x_clauses_of_steps : Addr} {od_clauses_of_steps an_clauses_of_steps : Option Addr} {sl_clauses_of_steps : Array (Option Value)} {oc_clauses_of_steps kV_clauses_of_steps dc_clauses_of_steps pm_clauses_of_steps cd_clauses_of_steps ct_clauses_of_steps : Value}
    {x_comes_to : Addr} {od_comes_to an_comes_to : Option Addr} {sl_comes_to : Array (Option Value)} {oc_comes_to kV_comes_to dc_comes_to pm_comes_to cd_comes_to ct_comes_to : Value}
    {x__law_tape : Addr} {od__law_tape an__law_tape : Option Addr} {sl__law_tape : Array (Option Value)} {oc__law_tape kV__law_tape dc__law_tape pm__law_tape cd__law_tape ct__law_tape : Value}
    {x__law_draw : Addr} {od__law_draw an__law_draw : Option Addr} {sl__law_draw : Array (Option Value)} {oc__law_draw kV__law_draw dc__law_draw pm__law_draw cd__law_draw ct__law_draw : Value}
    {x__law_words : Addr} {od__law_words an__law_words : Option Addr} {sl__law_words : Array (Option Value)} {oc__law_words kV__law_words dc__law_words pm__law_words cd__law_words ct__law_words : Value}
    {x__law_clause : Addr} {od__law_clause an__law_clause : Option Addr} {sl__law_clause : Array (Option Value)} {oc__law_clause kV__law_clause dc__law_clause pm__law_clause cd__law_clause ct__law_clause : Value}
    {x__law_joined : Addr} {od__law_joined an__law_joined : Option Addr} {sl__law_joined : Array (Option Value)} {oc__law_joined kV__law_joined dc__law_joined pm__law_joined cd__law_joined ct__law_joined : Value}
    {x__law_fresh : Addr} {od__law_fresh an__law_fresh : Option Addr} {sl__law_fresh : Array (Option Value)} {oc__law_fresh kV__law_fresh dc__law_fresh pm__law_fresh cd__law_fresh ct__law_fresh : Value}
    {x__law_grown : Addr} {od__law_grown an__law_grown : Option Addr} {sl__law_grown : Array (Option Value)} {oc__law_grown kV__law_grown dc__law_grown pm__law_grown cd__law_grown ct__law_grown : Value}
    {x__law_chain : Addr} {od__law_chain an__law_chain : Option Addr} {sl__law_chain : Array (Option Value)} {oc__law_chain kV__law_chain dc__law_chain pm__law_chain cd__law_chain ct__law_chain : Value}
    {x__law_padded : Addr} {od__law_padded an__law_padded : Option Addr} {sl__law_padded : Array (Option Value)} {oc__law_padded kV__law_padded dc__law_padded pm__law_padded cd__law_padded ct__law_padded : Value}
    {x_law : Addr} {od_law an_law : Option Addr} {sl_law : Array (Option Value)} {oc_law kV_law dc_law pm_law cd_law ct_law : Value}
    {x_Chain : Addr}
    {x_Chain___init__ : Addr} {od_Chain___init__ an_Chain___init__ : Option Addr} {sl_Chain___init__ : Array (Option Value)} {oc_Chain___init__ kV_Chain___init__ dc_Chain___init__ pm_Chain___init__ cd_Chain___init__ ct_Chain___init__ : Value}
    {x_Chain_last : Addr} {od_Chain_last an_Chain_last : Option Addr} {sl_Chain_last : Array (Option Value)} {oc_Chain_last kV_Chain_last dc_Chain_last pm_Chain_last cd_Chain_last ct_Chain_last : Value}
    {x_Chain_givens : Addr} {od_Chain_givens an_Chain_givens : Option Addr} {sl_Chain_givens : Array (Option Value)} {oc_Chain_givens kV_Chain_givens dc_Chain_givens pm_Chain_givens cd_Chain_givens ct_Chain_givens : Value}
    {x_FIGURES : Tok}
    {x_LETTERS : Tok}
    {x_LONGEST_NAME : Tok}
    {x_LONGEST_WORD : Tok}
    {x_WORDS_OF_TEXTS : Addr} {o_WORDS_OF_TEXTS : Obj} {its_WORDS_OF_TEXTS : Array Value} {n_WORDS_OF_TEXTS : Nat}
    {x_NoStep xi_NoStep : Addr} {nm_NoStep qn_NoStep : Str} {N_NoStep : Addr} {bs_NoStep : List Value} {sn_NoStep : List Str} {sb_NoStep : List Value} {ab_NoStep : Bool} {cl_NoStep : Option Bool} {dd_NoStep : Option Addr} {q0_NoStep q1_NoStep q2_NoStep q3_NoStep q5_NoStep : Option Value} {od_NoStep an_NoStep : Option Addr} {sl_NoStep : Array (Option Value)} {oc_NoStep kV_NoStep dc_NoStep pm_NoStep cd_NoStep ct_NoStep : Value}
    (a_is_word : PySem.W.nsIn K mainGlobals "is_word" = some (some (.ref x_is_word)))
    (l_is_word : K.lookup x_is_word = some ⟨oc_is_word, od_is_word, .func (PySem.W.fnOf "is_word" "is_word" (defArgs s_is_word) (defBody s_is_word) (defScope s_is_word) .none kV_is_word dc_is_word pm_is_word an_is_word cd_is_word ct_is_word), sl_is_word⟩)
    (c_is_word : PySem.W.codeIn K cd_is_word "is_word" = true)
    (k_is_word : PySem.W.keepIn K (.ref x_is_word) = true)
    (a_is_name : PySem.W.nsIn K mainGlobals "is_name" = some (some (.ref x_is_name)))
    (l_is_name : K.lookup x_is_name = some ⟨oc_is_name, od_is_name, .func (PySem.W.fnOf "is_name" "is_name" (defArgs s_is_name) (defBody s_is_name) (defScope s_is_name) .none kV_is_name dc_is_name pm_is_name an_is_name cd_is_name ct_is_name), sl_is_name⟩)
    (c_is_name : PySem.W.codeIn K cd_is_name "is_name" = true)
    (k_is_name : PySem.W.keepIn K (.ref x_is_name) = true)
    (a_is_literal : PySem.W.nsIn K mainGlobals "is_literal" = some (some (.ref x_is_literal)))
    (l_is_literal : K.lookup x_is_literal = some ⟨oc_is_literal, od_is_literal, .func (PySem.W.fnOf "is_literal" "is_literal" (defArgs s_is_literal) (defBody s_is_literal) (defScope s_is_literal) .none kV_is_literal dc_is_literal pm_is_literal an_is_literal cd_is_literal ct_is_literal), sl_is_literal⟩)
    (c_is_literal : PySem.W.codeIn K cd_is_literal "is_literal" = true)
    (k_is_literal : PySem.W.keepIn K (.ref x_is_literal) = true)
    (a_is_clause : PySem.W.nsIn K mainGlobals "is_clause" = some (some (.ref x_is_clause)))
    (l_is_clause : K.lookup x_is_clause = some ⟨oc_is_clause, od_is_clause, .func (PySem.W.fnOf "is_clause" "is_clause" (defArgs s_is_clause) (defBody s_is_clause) (defScope s_is_clause) .none kV_is_clause dc_is_clause pm_is_clause an_is_clause cd_is_clause ct_is_clause), sl_is_clause⟩)
    (c_is_clause : PySem.W.codeIn K cd_is_clause "is_clause" = true)
    (k_is_clause : PySem.W.keepIn K (.ref x_is_clause) = true)
    (a_clause_of : PySem.W.nsIn K mainGlobals "clause_of" = some (some (.ref x_clause_of)))
    (l_clause_of : K.lookup x_clause_of = some ⟨oc_clause_of, od_clause_of, .func (PySem.W.fnOf "clause_of" "clause_of" (defArgs s_clause_of) (defBody s_clause_of) (defScope s_clause_of) .none kV_clause_of dc_clause_of pm_clause_of an_clause_of cd_clause_of ct_clause_of), sl_clause_of⟩)
    (c_clause_of : PySem.W.codeIn K cd_clause_of "clause_of" = true)
    (k_clause_of : PySem.W.keepIn K (.ref x_clause_of) = true)
    (a_is_part : PySem.W.nsIn K mainGlobals "is_part" = some (some (.ref x_is_part)))
    (l_is_part : K.lookup x_is_part = some ⟨oc_is_part, od_is_part, .func (PySem.W.fnOf "is_part" "is_part" (defArgs s_is_part) (defBody s_is_part) (defScope s_is_part) .none kV_is_part dc_is_part pm_is_part an_is_part cd_is_part ct_is_part), sl_is_part⟩)
    (c_is_part : PySem.W.codeIn K cd_is_part "is_part" = true)
    (k_is_part : PySem.W.keepIn K (.ref x_is_part) = true)
    (a_is_number : PySem.W.nsIn K mainGlobals "is_number" = some (some (.ref x_is_number)))
    (l_is_number : K.lookup x_is_number = some ⟨oc_is_number, od_is_number, .func (PySem.W.fnOf "is_number" "is_number" (defArgs s_is_number) (defBody s_is_number) (defScope s_is_number) .none kV_is_number dc_is_number pm_is_number an_is_number cd_is_number ct_is_number), sl_is_number⟩)
    (c_is_number : PySem.W.codeIn K cd_is_number "is_number" = true)
    (k_is_number : PySem.W.keepIn K (.ref x_is_number) = true)
    (a_met_clause : PySem.W.nsIn K mainGlobals "met_clause" = some (some (.ref x_met_clause)))
    (l_met_clause : K.lookup x_met_clause = some ⟨oc_met_clause, od_met_clause, .func (PySem.W.fnOf "met_clause" "met_clause" (defArgs s_met_clause) (defBody s_met_clause) (defScope s_met_clause) .none kV_met_clause dc_met_clause pm_met_clause an_met_clause cd_met_clause ct_met_clause), sl_met_clause⟩)
    (c_met_clause : PySem.W.codeIn K cd_met_clause "met_clause" = true)
    (k_met_clause : PySem.W.keepIn K (.ref x_met_clause) = true)
    (a_clause_of_step : PySem.W.nsIn K mainGlobals "clause_of_step" = some (some (.ref x_clause_of_step)))
    (l_clause_of_step : K.lookup x_clause_of_step = some ⟨oc_clause_of_step, od_clause_of_step, .func (PySem.W.fnOf "clause_of_step" "clause_of_step" (defArgs s_clause_of_step) (defBody s_clause_of_step) (defScope s_clause_of_step) .none kV_clause_of_step dc_clause_of_step pm_clause_of_step an_clause_of_step cd_clause_of_step ct_clause_of_step), sl_clause_of_step⟩)
    (c_clause_of_step : PySem.W.codeIn K cd_clause_of_step "clause_of_step" = true)
    (k_clause_of_step : PySem.W.keepIn K (.ref x_clause_of_step) = true)
    (a_clauses_of_steps : PySem.W.nsIn K mainGlobals "clauses_of_steps" = some (some (.ref x_clauses_of_steps)))
    (l_clauses_of_steps : K.lookup x_clauses_of_steps = some ⟨oc_clauses_of_steps, od_clauses_of_steps, .func (PySem.W.fnOf "clauses_of_steps" "clauses_of_steps" (defArgs s_clauses_of_steps) (defBody s_clauses_of_steps) (defScope s_clauses_of_steps) .none kV_clauses_of_steps dc_clauses_of_steps pm_clauses_of_steps an_clauses_of_steps cd_clauses_of_steps ct_clauses_of_steps), sl_clauses_of_steps⟩)
    (c_clauses_of_steps : PySem.W.codeIn K cd_clauses_of_steps "clauses_of_steps" = true)
    (k_clauses_of_steps : PySem.W.keepIn K (.ref x_clauses_of_steps) = true)
    (a_comes_to : PySem.W.nsIn K mainGlobals "comes_to" = some (some (.ref x_comes_to)))
    (l_comes_to : K.lookup x_comes_to = some ⟨oc_comes_to, od_comes_to, .func (PySem.W.fnOf "comes_to" "comes_to" (defArgs s_comes_to) (defBody s_comes_to) (defScope s_comes_to) .none kV_comes_to dc_comes_to pm_comes_to an_comes_to cd_comes_to ct_comes_to), sl_comes_to⟩)
    (c_comes_to : PySem.W.codeIn K cd_comes_to "comes_to" = true)
    (k_comes_to : PySem.W.keepIn K (.ref x_comes_to) = true)
    (a__law_tape : PySem.W.nsIn K mainGlobals "_law_tape" = some (some (.ref x__law_tape)))
    (l__law_tape : K.lookup x__law_tape = some ⟨oc__law_tape, od__law_tape, .func (PySem.W.fnOf "_law_tape" "_law_tape" (defArgs s_law_tape) (defBody s_law_tape) (defScope s_law_tape) .none kV__law_tape dc__law_tape pm__law_tape an__law_tape cd__law_tape ct__law_tape), sl__law_tape⟩)
    (c__law_tape : PySem.W.codeIn K cd__law_tape "_law_tape" = true)
    (k__law_tape : PySem.W.keepIn K (.ref x__law_tape) = true)
    (a__law_draw : PySem.W.nsIn K mainGlobals "_law_draw" = some (some (.ref x__law_draw)))
    (l__law_draw : K.lookup x__law_draw = some ⟨oc__law_draw, od__law_draw, .func (PySem.W.fnOf "_law_draw" "_law_draw" (defArgs s_law_draw) (defBody s_law_draw) (defScope s_law_draw) .none kV__law_draw dc__law_draw pm__law_draw an__law_draw cd__law_draw ct__law_draw), sl__law_draw⟩)
    (c__law_draw : PySem.W.codeIn K cd__law_draw "_law_draw" = true)
    (k__law_draw : PySem.W.keepIn K (.ref x__law_draw) = true)
    (a__law_words : PySem.W.nsIn K mainGlobals "_law_words" = some (some (.ref x__law_words)))
    (l__law_words : K.lookup x__law_words = some ⟨oc__law_words, od__law_words, .func (PySem.W.fnOf "_law_words" "_law_words" (defArgs s_law_words) (defBody s_law_words) (defScope s_law_words) .none kV__law_words dc__law_words pm__law_words an__law_words cd__law_words ct__law_words), sl__law_words⟩)
    (c__law_words : PySem.W.codeIn K cd__law_words "_law_words" = true)
    (k__law_words : PySem.W.keepIn K (.ref x__law_words) = true)
    (a__law_clause : PySem.W.nsIn K mainGlobals "_law_clause" = some (some (.ref x__law_clause)))
    (l__law_clause : K.lookup x__law_clause = some ⟨oc__law_clause, od__law_clause, .func (PySem.W.fnOf "_law_clause" "_law_clause" (defArgs s_law_clause) (defBody s_law_clause) (defScope s_law_clause) .none kV__law_clause dc__law_clause pm__law_clause an__law_clause cd__law_clause ct__law_clause), sl__law_clause⟩)
    (c__law_clause : PySem.W.codeIn K cd__law_clause "_law_clause" = true)
    (k__law_clause : PySem.W.keepIn K (.ref x__law_clause) = true)
    (a__law_joined : PySem.W.nsIn K mainGlobals "_law_joined" = some (some (.ref x__law_joined)))
    (l__law_joined : K.lookup x__law_joined = some ⟨oc__law_joined, od__law_joined, .func (PySem.W.fnOf "_law_joined" "_law_joined" (defArgs s_law_joined) (defBody s_law_joined) (defScope s_law_joined) .none kV__law_joined dc__law_joined pm__law_joined an__law_joined cd__law_joined ct__law_joined), sl__law_joined⟩)
    (c__law_joined : PySem.W.codeIn K cd__law_joined "_law_joined" = true)
    (k__law_joined : PySem.W.keepIn K (.ref x__law_joined) = true)
    (a__law_fresh : PySem.W.nsIn K mainGlobals "_law_fresh" = some (some (.ref x__law_fresh)))
    (l__law_fresh : K.lookup x__law_fresh = some ⟨oc__law_fresh, od__law_fresh, .func (PySem.W.fnOf "_law_fresh" "_law_fresh" (defArgs s_law_fresh) (defBody s_law_fresh) (defScope s_law_fresh) .none kV__law_fresh dc__law_fresh pm__law_fresh an__law_fresh cd__law_fresh ct__law_fresh), sl__law_fresh⟩)
    (c__law_fresh : PySem.W.codeIn K cd__law_fresh "_law_fresh" = true)
    (k__law_fresh : PySem.W.keepIn K (.ref x__law_fresh) = true)
    (a__law_grown : PySem.W.nsIn K mainGlobals "_law_grown" = some (some (.ref x__law_grown)))
    (l__law_grown : K.lookup x__law_grown = some ⟨oc__law_grown, od__law_grown, .func (PySem.W.fnOf "_law_grown" "_law_grown" (defArgs s_law_grown) (defBody s_law_grown) (defScope s_law_grown) .none kV__law_grown dc__law_grown pm__law_grown an__law_grown cd__law_grown ct__law_grown), sl__law_grown⟩)
    (c__law_grown : PySem.W.codeIn K cd__law_grown "_law_grown" = true)
    (k__law_grown : PySem.W.keepIn K (.ref x__law_grown) = true)
    (a__law_chain : PySem.W.nsIn K mainGlobals "_law_chain" = some (some (.ref x__law_chain)))
    (l__law_chain : K.lookup x__law_chain = some ⟨oc__law_chain, od__law_chain, .func (PySem.W.fnOf "_law_chain" "_law_chain" (defArgs s_law_chain) (defBody s_law_chain) (defScope s_law_chain) .none kV__law_chain dc__law_chain pm__law_chain an__law_chain cd__law_chain ct__law_chain), sl__law_chain⟩)
    (c__law_chain : PySem.W.codeIn K cd__law_chain "_law_chain" = true)
    (k__law_chain : PySem.W.keepIn K (.ref x__law_chain) = true)
    (a__law_padded : PySem.W.nsIn K mainGlobals "_law_padded" = some (some (.ref x__law_padded)))
    (l__law_padded : K.lookup x__law_padded = some ⟨oc__law_padded, od__law_padded, .func (PySem.W.fnOf "_law_padded" "_law_padded" (defArgs s_law_padded) (defBody s_law_padded) (defScope s_law_padded) .none kV__law_padded dc__law_padded pm__law_padded an__law_padded cd__law_padded ct__law_padded), sl__law_padded⟩)
    (c__law_padded : PySem.W.codeIn K cd__law_padded "_law_padded" = true)
    (k__law_padded : PySem.W.keepIn K (.ref x__law_padded) = true)
    (a_law : PySem.W.nsIn K mainGlobals "law" = some (some (.ref x_law)))
    (l_law : K.lookup x_law = some ⟨oc_law, od_law, .func (PySem.W.fnOf "law" "law" (defArgs s_law) (defBody s_law) (defScope s_law) .none kV_law dc_law pm_law an_law cd_law ct_law), sl_law⟩)
    (c_law : PySem.W.codeIn K cd_law "law" = true)
    (k_law : PySem.W.keepIn K (.ref x_law) = true)
    (a_Chain : PySem.W.nsIn K mainGlobals "Chain" = some (some (.ref x_Chain)))
    (a_Chain___init__ : PySem.W.findIn K (.ref x_Chain) "__init__" = some (some (.ref x_Chain___init__)))
    (l_Chain___init__ : K.lookup x_Chain___init__ = some ⟨oc_Chain___init__, od_Chain___init__, .func (PySem.W.fnOf "__init__" "Chain.__init__" (defArgs s_Chain___init__) (defBody s_Chain___init__) (defScope s_Chain___init__) .none kV_Chain___init__ dc_Chain___init__ pm_Chain___init__ an_Chain___init__ cd_Chain___init__ ct_Chain___init__), sl_Chain___init__⟩)
    (c_Chain___init__ : PySem.W.codeIn K cd_Chain___init__ "Chain.__init__" = true)
    (k_Chain___init__ : PySem.W.keepIn K (.ref x_Chain___init__) = true)
    (f_Chain___init__ : PySem.W.isFn K (.ref x_Chain___init__) = true)
    (a_Chain_last : PySem.W.findIn K (.ref x_Chain) "last" = some (some (.ref x_Chain_last)))
    (l_Chain_last : K.lookup x_Chain_last = some ⟨oc_Chain_last, od_Chain_last, .func (PySem.W.fnOf "last" "Chain.last" (defArgs s_Chain_last) (defBody s_Chain_last) (defScope s_Chain_last) .none kV_Chain_last dc_Chain_last pm_Chain_last an_Chain_last cd_Chain_last ct_Chain_last), sl_Chain_last⟩)
    (c_Chain_last : PySem.W.codeIn K cd_Chain_last "Chain.last" = true)
    (k_Chain_last : PySem.W.keepIn K (.ref x_Chain_last) = true)
    (f_Chain_last : PySem.W.isFn K (.ref x_Chain_last) = true)
    (a_Chain_givens : PySem.W.findIn K (.ref x_Chain) "givens" = some (some (.ref x_Chain_givens)))
    (l_Chain_givens : K.lookup x_Chain_givens = some ⟨oc_Chain_givens, od_Chain_givens, .func (PySem.W.fnOf "givens" "Chain.givens" (defArgs s_Chain_givens) (defBody s_Chain_givens) (defScope s_Chain_givens) .none kV_Chain_givens dc_Chain_givens pm_Chain_givens an_Chain_givens cd_Chain_givens ct_Chain_givens), sl_Chain_givens⟩)
    (c_Chain_givens : PySem.W.codeIn K cd_Chain_givens "Chain.givens" = true)
    (k_Chain_givens : PySem.W.keepIn K (.ref x_Chain_givens) = true)
    (f_Chain_givens : PySem.W.isFn K (.ref x_Chain_givens) = true)
    (cb_Chain : clB K x_Chain = true)
    (nb_Chain : nasB K x_Chain ["reached", "rows"] = true)
    (a_FIGURES : PySem.W.nsIn K mainGlobals "FIGURES" = some (some (.str "0123456789" x_FIGURES)))
    (a_LETTERS : PySem.W.nsIn K mainGlobals "LETTERS" = some (some (.str "abcdefghijklmnopqrstuvwxyz" x_LETTERS)))
    (a_LONGEST_NAME : PySem.W.nsIn K mainGlobals "LONGEST_NAME" = some (some (.int 12 x_LONGEST_NAME)))
    (a_LONGEST_WORD : PySem.W.nsIn K mainGlobals "LONGEST_WORD" = some (some (.int 8 x_LONGEST_WORD)))
    (a_WORDS_OF_TEXTS : PySem.W.nsIn K mainGlobals "WORDS_OF_TEXTS" = some (some (.ref x_WORDS_OF_TEXTS)))
    (l_WORDS_OF_TEXTS : K.lookup x_WORDS_OF_TEXTS = some o_WORDS_OF_TEXTS)
    (h_WORDS_OF_TEXTS : o_WORDS_OF_TEXTS.cls = .type "tuple" ∧ o_WORDS_OF_TEXTS.data = .seq its_WORDS_OF_TEXTS n_WORDS_OF_TEXTS ∧ its_WORDS_OF_TEXTS.size ≤ sizeLine ∧ Vals [.str "not", .str "and", .str "or", .str "gives", .str "is", .str "yes", .str "no"] its_WORDS_OF_TEXTS.toList)
    (a_NoStep : PySem.W.nsIn K mainGlobals "NoStep" = some (some (.ref x_NoStep)))
    (l_NoStep : K.lookup x_NoStep = some (excClassObj nm_NoStep qn_NoStep x_NoStep N_NoStep bs_NoStep [.type "IndexError", .type "LookupError", .type "Exception", .type "BaseException", .type "object"] true sn_NoStep sb_NoStep ab_NoStep cl_NoStep dd_NoStep q0_NoStep q1_NoStep q2_NoStep q3_NoStep q5_NoStep "IndexError.__new__"))
    (i_NoStep : PySem.W.findIn K (.ref x_NoStep) "__init__" = some (some (.ref xi_NoStep)))
    (li_NoStep : K.lookup xi_NoStep = some ⟨oc_NoStep, od_NoStep, .func (PySem.W.fnOf "__init__" ("NoStep" ++ ".__init__") (defArgs sx_NoStep) (defBody sx_NoStep) (defScope sx_NoStep) .none kV_NoStep dc_NoStep pm_NoStep an_NoStep cd_NoStep ct_NoStep), sl_NoStep⟩)
    (ci_NoStep : PySem.W.codeIn K cd_NoStep ("NoStep" ++ ".__init__") = true)
    (ki_NoStep : PySem.W.keepIn K (.ref xi_NoStep) = true)
    (o_NoStep : oxB K x_NoStep xi_NoStep "step" [.type "IndexError", .type "LookupError", .type "Exception", .type "BaseException", .type "object"] = true)
    (vb_IndexError : PySem.W.findCls K (.type "IndexError") (.type "type") "__init__" = some (.val (.builtin "IndexError.__init__")))
    (z_IndexError : PySem.W.nsIn K mainGlobals "IndexError" = some none)
    (z_all : PySem.W.nsIn K mainGlobals "all" = some none)
    (z_bool : PySem.W.nsIn K mainGlobals "bool" = some none)
    (z_enumerate : PySem.W.nsIn K mainGlobals "enumerate" = some none)
    (z_int : PySem.W.nsIn K mainGlobals "int" = some none)
    (z_isinstance : PySem.W.nsIn K mainGlobals "isinstance" = some none)
    (z_len : PySem.W.nsIn K mainGlobals "len" = some none)
    (z_list : PySem.W.nsIn K mainGlobals "list" = some none)
    (z_max : PySem.W.nsIn K mainGlobals "max" = some none)
    (z_range : PySem.W.nsIn K mainGlobals "range" = some none)
    (z_set : PySem.W.nsIn K mainGlobals "set" = some none)
    (z_sorted : PySem.W.nsIn K mainGlobals "sorted" = some none)
    (z_str : PySem.W.nsIn K mainGlobals "str" = some none)
    (z_tuple : PySem.W.nsIn K mainGlobals "tuple" = some none)
    (z_zip : PySem.W.nsIn K mainGlobals "zip" = some none) :
    ∃ fd : FuncData, (∀ (s : Shared) (v : Value), BindsTo s fd ⟨[v], []⟩ [("_law_script", v)]) ∧ ∀ base : Heap, K.In base → base.Ns mainGlobals mg → FnOk PySem.Challenge.pw_middlesay_k15_the_judge w K mg base (L2.CX PySem.Challenge.pw_middlesay_k15_the_judge w) 122 fa fd ["_law_script"] (spLaw K 63) := by
  have e := hfa.symm.trans (PySem.W.mg_of X G a_law)
  cases e
  have F_is_word := fun_mk (st := s_is_word) l_is_word c_is_word k_is_word
  have b_is_word := F_is_word.binds (ps := ["thing"]) fun _ _ _ _ _ _ us hl => match us, hl with | [_], _ => rfl
  have F_is_name := fun_mk (st := s_is_name) l_is_name c_is_name k_is_name
  have b_is_name := F_is_name.binds (ps := ["thing"]) fun _ _ _ _ _ _ us hl => match us, hl with | [_], _ => rfl
  have F_is_literal := fun_mk (st := s_is_literal) l_is_literal c_is_literal k_is_literal
  have b_is_literal := F_is_literal.binds (ps := ["thing"]) fun _ _ _ _ _ _ us hl => match us, hl with | [_], _ => rfl
  have F_is_clause := fun_mk (st := s_is_clause) l_is_clause c_is_clause k_is_clause
  have b_is_clause := F_is_clause.binds (ps := ["thing"]) fun _ _ _ _ _ _ us hl => match us, hl with | [_], _ => rfl
  have F_clause_of := fun_mk (st := s_clause_of) l_clause_of c_clause_of k_clause_of
  have b_clause_of := F_clause_of.binds (ps := ["literals"]) fun _ _ _ _ _ _ us hl => match us, hl with | [_], _ => rfl
  have F_is_part := fun_mk (st := s_is_part) l_is_part c_is_part k_is_part
  have b_is_part := F_is_part.binds (ps := ["clause", "other"]) fun _ _ _ _ _ _ us hl => match us, hl with | [_, _], _ => rfl
  have F_is_number := fun_mk (st := s_is_number) l_is_number c_is_number k_is_number
  have b_is_number := F_is_number.binds (ps := ["thing", "most"]) fun _ _ _ _ _ _ us hl => match us, hl with | [_, _], _ => rfl
  have F_met_clause := fun_mk (st := s_met_clause) l_met_clause c_met_clause k_met_clause
  have b_met_clause := F_met_clause.binds (ps := ["one", "other", "name"]) fun _ _ _ _ _ _ us hl => match us, hl with | [_, _, _], _ => rfl
  have F_clause_of_step := fun_mk (st := s_clause_of_step) l_clause_of_step c_clause_of_step k_clause_of_step
  have b_clause_of_step := F_clause_of_step.binds (ps := ["thing", "clauses"]) fun _ _ _ _ _ _ us hl => match us, hl with | [_, _], _ => rfl
  have F_clauses_of_steps := fun_mk (st := s_clauses_of_steps) l_clauses_of_steps c_clauses_of_steps k_clauses_of_steps
  have b_clauses_of_steps := F_clauses_of_steps.binds (ps := ["steps"]) fun _ _ _ _ _ _ us hl => match us, hl with | [_], _ => rfl
  have F_comes_to := fun_mk (st := s_comes_to) l_comes_to c_comes_to k_comes_to
  have b_comes_to := F_comes_to.binds (ps := ["chain", "clauses", "clause"]) fun _ _ _ _ _ _ us hl => match us, hl with | [_, _, _], _ => rfl
  have F__law_tape := fun_mk (st := s_law_tape) l__law_tape c__law_tape k__law_tape
  have b__law_tape := F__law_tape.binds (ps := ["_law_script"]) fun _ _ _ _ _ _ us hl => match us, hl with | [_], _ => rfl
  have F__law_draw := fun_mk (st := s_law_draw) l__law_draw c__law_draw k__law_draw
  have b__law_draw := F__law_draw.binds (ps := ["_law_tape_here", "_law_many"]) fun _ _ _ _ _ _ us hl => match us, hl with | [_, _], _ => rfl
  have F__law_words := fun_mk (st := s_law_words) l__law_words c__law_words k__law_words
  have b__law_words := F__law_words.binds (ps := ["_law_tape_here", "_law_many"]) fun _ _ _ _ _ _ us hl => match us, hl with | [_, _], _ => rfl
  have F__law_clause := fun_mk (st := s_law_clause) l__law_clause c__law_clause k__law_clause
  have b__law_clause := F__law_clause.binds (ps := ["_law_tape_here", "_law_names", "_law_few"]) fun _ _ _ _ _ _ us hl => match us, hl with | [_, _, _], _ => rfl
  have F__law_joined := fun_mk (st := s_law_joined) l__law_joined c__law_joined k__law_joined
  have b__law_joined := F__law_joined.binds (ps := ["_law_literals"]) fun _ _ _ _ _ _ us hl => match us, hl with | [_], _ => rfl
  have F__law_fresh := fun_mk (st := s_law_fresh) l__law_fresh c__law_fresh k__law_fresh
  have b__law_fresh := F__law_fresh.binds (ps := ["_law_tape_here", "_law_many"]) fun _ _ _ _ _ _ us hl => match us, hl with | [_, _], _ => rfl
  have F__law_grown := fun_mk (st := s_law_grown) l__law_grown c__law_grown k__law_grown
  have b__law_grown := F__law_grown.binds (ps := ["_law_tape_here", "_law_box", "_law_clause_here", "_law_deep"]) fun _ _ _ _ _ _ us hl => match us, hl with | [_, _, _, _], _ => rfl
  have F__law_chain := fun_mk (st := s_law_chain) l__law_chain c__law_chain k__law_chain
  have b__law_chain := F__law_chain.binds (ps := ["_law_tape_here", "_law_names", "_law_clause_here", "_law_left", "_law_deep"]) fun _ _ _ _ _ _ us hl => match us, hl with | [_, _, _, _, _], _ => rfl
  have F__law_padded := fun_mk (st := s_law_padded) l__law_padded c__law_padded k__law_padded
  have b__law_padded := F__law_padded.binds (ps := ["_law_tape_here", "_law_steps", "_law_clauses", "_law_names"]) fun _ _ _ _ _ _ us hl => match us, hl with | [_, _, _, _], _ => rfl
  have F_law := fun_mk (st := s_law) l_law c_law k_law
  have b_law := F_law.binds (ps := ["_law_script"]) fun _ _ _ _ _ _ us hl => match us, hl with | [_], _ => rfl
  have F_Chain___init__ := fun_mk (st := s_Chain___init__) l_Chain___init__ c_Chain___init__ k_Chain___init__
  have b_Chain___init__ := F_Chain___init__.binds (ps := ["self", "steps"]) fun _ _ _ _ _ _ us hl => match us, hl with | [_, _], _ => rfl
  have F_Chain_last := fun_mk (st := s_Chain_last) l_Chain_last c_Chain_last k_Chain_last
  have b_Chain_last := F_Chain_last.binds (ps := ["self"]) fun _ _ _ _ _ _ us hl => match us, hl with | [_], _ => rfl
  have F_Chain_givens := fun_mk (st := s_Chain_givens) l_Chain_givens c_Chain_givens k_Chain_givens
  have b_Chain_givens := F_Chain_givens.binds (ps := ["self"]) fun _ _ _ _ _ _ us hl => match us, hl with | [_], _ => rfl
  have F_NoStep := fun_mk (st := sx_NoStep) li_NoStep ci_NoStep ki_NoStep
  have b_NoStep := F_NoStep.binds (ps := ["self", "step"]) fun _ _ _ _ _ _ us hl => match us, hl with | [_, _], _ => rfl
  let T : Txt w K mg := ⟨x_is_word,
    _,
    F_is_word,
    PySem.W.mg_of X G a_is_word,
    b_is_word,
    x_is_name,
    _,
    F_is_name,
    PySem.W.mg_of X G a_is_name,
    b_is_name,
    x_is_literal,
    _,
    F_is_literal,
    PySem.W.mg_of X G a_is_literal,
    b_is_literal,
    x_is_clause,
    _,
    F_is_clause,
    PySem.W.mg_of X G a_is_clause,
    b_is_clause,
    x_clause_of,
    _,
    F_clause_of,
    PySem.W.mg_of X G a_clause_of,
    b_clause_of,
    x_is_part,
    _,
    F_is_part,
    PySem.W.mg_of X G a_is_part,
    b_is_part,
    x_is_number,
    _,
    F_is_number,
    PySem.W.mg_of X G a_is_number,
    b_is_number,
    x_met_clause,
    _,
    F_met_clause,
    PySem.W.mg_of X G a_met_clause,
    b_met_clause,
    x_clause_of_step,
    _,
    F_clause_of_step,
    PySem.W.mg_of X G a_clause_of_step,
    b_clause_of_step,
    x_clauses_of_steps,
    _,
    F_clauses_of_steps,
    PySem.W.mg_of X G a_clauses_of_steps,
    b_clauses_of_steps,
    x_comes_to,
    _,
    F_comes_to,
    PySem.W.mg_of X G a_comes_to,
    b_comes_to,
    x__law_tape,
    _,
    F__law_tape,
    PySem.W.mg_of X G a__law_tape,
    b__law_tape,
    x__law_draw,
    _,
    F__law_draw,
    PySem.W.mg_of X G a__law_draw,
    b__law_draw,
    x__law_words,
    _,
    F__law_words,
    PySem.W.mg_of X G a__law_words,
    b__law_words,
    x__law_clause,
    _,
    F__law_clause,
    PySem.W.mg_of X G a__law_clause,
    b__law_clause,
    x__law_joined,
    _,
    F__law_joined,
    PySem.W.mg_of X G a__law_joined,
    b__law_joined,
    x__law_fresh,
    _,
    F__law_fresh,
    PySem.W.mg_of X G a__law_fresh,
    b__law_fresh,
    x__law_grown,
    _,
    F__law_grown,
    PySem.W.mg_of X G a__law_grown,
    b__law_grown,
    x__law_chain,
    _,
    F__law_chain,
    PySem.W.mg_of X G a__law_chain,
    b__law_chain,
    x__law_padded,
    _,
    F__law_padded,
    PySem.W.mg_of X G a__law_padded,
    b__law_padded,
    fa,
    _,
    F_law,
    PySem.W.mg_of X G a_law,
    b_law,
    x_Chain___init__,
    _,
    F_Chain___init__,
    b_Chain___init__,
    x_Chain_last,
    _,
    F_Chain_last,
    b_Chain_last,
    x_Chain_givens,
    _,
    F_Chain_givens,
    b_Chain_givens,
    x_Chain,
    PySem.W.mg_of X G a_Chain,
    (cl_mk cb_Chain).1,
    ⟨(cl_mk cb_Chain).2.1, a_Chain___init__, f_Chain___init__, (cl_mk cb_Chain).2.2⟩,
    ⟨a_Chain_last, f_Chain_last, k_Chain_last⟩,
    ⟨a_Chain_givens, f_Chain_givens, k_Chain_givens⟩,
    nas_mk nb_Chain (by simp),
    nas_mk nb_Chain (by simp),
    _,
    .str _,
    PySem.W.mg_of X G a_FIGURES,
    ⟨_, rfl⟩,
    .str _,
    _,
    .str _,
    PySem.W.mg_of X G a_LETTERS,
    ⟨_, rfl⟩,
    .str _,
    _,
    .int _,
    PySem.W.mg_of X G a_LONGEST_NAME,
    ⟨_, rfl⟩,
    .int _,
    _,
    .int _,
    PySem.W.mg_of X G a_LONGEST_WORD,
    ⟨_, rfl⟩,
    .int _,
    _,
    .ref x_WORDS_OF_TEXTS,
    PySem.W.mg_of X G a_WORDS_OF_TEXTS,
    rfl,
    .tup (.inr ⟨o_WORDS_OF_TEXTS, its_WORDS_OF_TEXTS, n_WORDS_OF_TEXTS, l_WORDS_OF_TEXTS, h_WORDS_OF_TEXTS⟩) (.cons (.str _) (.cons (.str _) (.cons (.str _) (.cons (.str _) (.cons (.str _) (.cons (.str _) (.cons (.str _) .nil))))))),
    x_NoStep,
    xi_NoStep,
    _,
    xc_mk (PySem.W.mg_of X G a_NoStep) l_NoStep i_NoStep F_NoStep b_NoStep o_NoStep,
    vb_IndexError,
    PySem.W.mg_none_of X G z_IndexError,
    PySem.W.mg_none_of X G z_all,
    PySem.W.mg_none_of X G z_bool,
    PySem.W.mg_none_of X G z_enumerate,
    PySem.W.mg_none_of X G z_int,
    PySem.W.mg_none_of X G z_isinstance,
    PySem.W.mg_none_of X G z_len,
    PySem.W.mg_none_of X G z_list,
    PySem.W.mg_none_of X G z_max,
    PySem.W.mg_none_of X G z_range,
    PySem.W.mg_none_of X G z_set,
    PySem.W.mg_none_of X G z_sorted,
    PySem.W.mg_none_of X G z_str,
    PySem.W.mg_none_of X G z_tuple,
    PySem.W.mg_none_of X G z_zip⟩
  exact ⟨T.fd_law, fun s v => .of_eq rfl, fun base _ _ => law_of (oks T 60).o_law law_holds⟩

end Law
open PySem PySem.W PyProof.Rows
set_option maxRecDepth 100000 in
set_option maxHeartbeats 0 in
theorem PySem.Challenge.cw_middlesay_k15_the_judge_holds : PySem.Challenge.rw_middlesay_k15_the_judge.Holds := by
  w_on; o_law; k_head; (case hw => w_witness2)
  k_fill
  refine L2.walk_of (l := PySem.Challenge.rw_middlesay_k15_the_judge) (n := 63) (k := 122) (x := "_law_script") (CX := fun w => L2.CX PySem.Challenge.pw_middlesay_k15_the_judge w) (sp := fun w => DL.spLaw _ 63) rfl (by decide) rfl ⟨rfl, by decide, by decide⟩ (fun w h Y => PySem.W.kIn_of Y) ?F (fun _ _ a ns hl ho hS => ⟨a, ns, rfl, ho, hS, hl, fun _ => rfl⟩) (fun _ _ _ _ _ h => DL.cx_none h)
  case F =>
    intro w mg fa h KX G hmg
    refine' Law.all_mk KX G hmg ?a_is_word ?l_is_word ?c_is_word ?k_is_word ?a_is_name ?l_is_name ?c_is_name ?k_is_name ?a_is_literal ?l_is_literal ?c_is_literal ?k_is_literal ?a_is_clause ?l_is_clause ?c_is_clause ?k_is_clause ?a_clause_of ?l_clause_of ?c_clause_of ?k_clause_of ?a_is_part ?l_is_part ?c_is_part ?k_is_part ?a_is_number ?l_is_number ?c_is_number ?k_is_number ?a_met_clause ?l_met_clause ?c_met_clause ?k_met_clause ?a_clause_of_step ?l_clause_of_step ?c_clause_of_step ?k_clause_of_step ?a_clauses_of_steps ?l_clauses_of_steps ?c_clauses_of_steps ?k_clauses_of_steps ?a_comes_to ?l_comes_to ?c_comes_to ?k_comes_to ?a__law_tape ?l__law_tape ?c__law_tape ?k__law_tape ?a__law_draw ?l__law_draw ?c__law_draw ?k__law_draw ?a__law_words ?l__law_words ?c__law_words ?k__law_words ?a__law_clause ?l__law_clause ?c__law_clause ?k__law_clause ?a__law_joined ?l__law_joined ?c__law_joined ?k__law_joined ?a__law_fresh ?l__law_fresh ?c__law_fresh ?k__law_fresh ?a__law_grown ?l__law_grown ?c__law_grown ?k__law_grown ?a__law_chain ?l__law_chain ?c__law_chain ?k__law_chain ?a__law_padded ?l__law_padded ?c__law_padded ?k__law_padded ?a_law ?l_law ?c_law ?k_law ?a_Chain ?a_Chain___init__ ?l_Chain___init__ ?c_Chain___init__ ?k_Chain___init__ ?f_Chain___init__ ?a_Chain_last ?l_Chain_last ?c_Chain_last ?k_Chain_last ?f_Chain_last ?a_Chain_givens ?l_Chain_givens ?c_Chain_givens ?k_Chain_givens ?f_Chain_givens ?cb_Chain ?nb_Chain ?a_FIGURES ?a_LETTERS ?a_LONGEST_NAME ?a_LONGEST_WORD ?a_WORDS_OF_TEXTS ?l_WORDS_OF_TEXTS ?h_WORDS_OF_TEXTS ?a_NoStep ?l_NoStep ?i_NoStep ?li_NoStep ?ci_NoStep ?ki_NoStep ?o_NoStep ?vb_IndexError ?z_IndexError ?z_all ?z_bool ?z_enumerate ?z_int ?z_isinstance ?z_len ?z_list ?z_max ?z_range ?z_set ?z_sorted ?z_str ?z_tuple ?z_zip
    (case a_is_word => k_is)
    (case l_is_word => k_is)
    (case c_is_word => k_is)
    (case k_is_word => k_is)
    (case a_is_name => k_is)
    (case l_is_name => k_is)
    (case c_is_name => k_is)
    (case k_is_name => k_is)
    (case a_is_literal => k_is)
    (case l_is_literal => k_is)
    (case c_is_literal => k_is)
    (case k_is_literal => k_is)
    (case a_is_clause => k_is)
    (case l_is_clause => k_is)
    (case c_is_clause => k_is)
    (case k_is_clause => k_is)
    (case a_clause_of => k_is)
    (case l_clause_of => k_is)
    (case c_clause_of => k_is)
    (case k_clause_of => k_is)
    (case a_is_part => k_is)
    (case l_is_part => k_is)
    (case c_is_part => k_is)
    (case k_is_part => k_is)
    (case a_is_number => k_is)
    (case l_is_number => k_is)
    (case c_is_number => k_is)
    (case k_is_number => k_is)
    (case a_met_clause => k_is)
    (case l_met_clause => k_is)
    (case c_met_clause => k_is)
    (case k_met_clause => k_is)
    (case a_clause_of_step => k_is)
    (case l_clause_of_step => k_is)
    (case c_clause_of_step => k_is)
    (case k_clause_of_step => k_is)
    (case a_clauses_of_steps => k_is)
    (case l_clauses_of_steps => k_is)
    (case c_clauses_of_steps => k_is)
    (case k_clauses_of_steps => k_is)
    (case a_comes_to => k_is)
    (case l_comes_to => k_is)
    (case c_comes_to => k_is)
    (case k_comes_to => k_is)
    (case a__law_tape => k_is)
    (case l__law_tape => k_is)
    (case c__law_tape => k_is)
    (case k__law_tape => k_is)
    (case a__law_draw => k_is)
    (case l__law_draw => k_is)
    (case c__law_draw => k_is)
    (case k__law_draw => k_is)
    (case a__law_words => k_is)
    (case l__law_words => k_is)
    (case c__law_words => k_is)
    (case k__law_words => k_is)
    (case a__law_clause => k_is)
    (case l__law_clause => k_is)
    (case c__law_clause => k_is)
    (case k__law_clause => k_is)
    (case a__law_joined => k_is)
    (case l__law_joined => k_is)
    (case c__law_joined => k_is)
    (case k__law_joined => k_is)
    (case a__law_fresh => k_is)
    (case l__law_fresh => k_is)
    (case c__law_fresh => k_is)
    (case k__law_fresh => k_is)
    (case a__law_grown => k_is)
    (case l__law_grown => k_is)
    (case c__law_grown => k_is)
    (case k__law_grown => k_is)
    (case a__law_chain => k_is)
    (case l__law_chain => k_is)
    (case c__law_chain => k_is)
    (case k__law_chain => k_is)
    (case a__law_padded => k_is)
    (case l__law_padded => k_is)
    (case c__law_padded => k_is)
    (case k__law_padded => k_is)
    (case a_law => k_is)
    (case l_law => k_is)
    (case c_law => k_is)
    (case k_law => k_is)
    (case a_Chain => k_is)
    (case a_Chain___init__ => k_is)
    (case l_Chain___init__ => k_is)
    (case c_Chain___init__ => k_is)
    (case k_Chain___init__ => k_is)
    (case f_Chain___init__ => k_is)
    (case a_Chain_last => k_is)
    (case l_Chain_last => k_is)
    (case c_Chain_last => k_is)
    (case k_Chain_last => k_is)
    (case f_Chain_last => k_is)
    (case a_Chain_givens => k_is)
    (case l_Chain_givens => k_is)
    (case c_Chain_givens => k_is)
    (case k_Chain_givens => k_is)
    (case f_Chain_givens => k_is)
    (case cb_Chain => kernel_rfl)
    (case nb_Chain => kernel_rfl)
    (case a_FIGURES => k_is)
    (case a_LETTERS => k_is)
    (case a_LONGEST_NAME => k_is)
    (case a_LONGEST_WORD => k_is)
    (case a_WORDS_OF_TEXTS => k_is)
    (case l_WORDS_OF_TEXTS => k_is)
    (case h_WORDS_OF_TEXTS => exact ⟨rfl, rfl, by decide, (.cons ⟨_, rfl⟩ (.cons ⟨_, rfl⟩ (.cons ⟨_, rfl⟩ (.cons ⟨_, rfl⟩ (.cons ⟨_, rfl⟩ (.cons ⟨_, rfl⟩ (.cons ⟨_, rfl⟩ .nil)))))))⟩)
    (case a_NoStep => k_is)
    (case l_NoStep => k_is)
    (case i_NoStep => k_is)
    (case li_NoStep => k_is)
    (case ci_NoStep => k_is)
    (case ki_NoStep => k_is)
    (case o_NoStep => kernel_rfl)
    (case vb_IndexError => k_is)
    (case z_IndexError => k_is)
    (case z_all => k_is)
    (case z_bool => k_is)
    (case z_enumerate => k_is)
    (case z_int => k_is)
    (case z_isinstance => k_is)
    (case z_len => k_is)
    (case z_list => k_is)
    (case z_max => k_is)
    (case z_range => k_is)
    (case z_set => k_is)
    (case z_sorted => k_is)
    (case z_str => k_is)
    (case z_tuple => k_is)
    (case z_zip => k_is)
