import PyProof.Rows.All
import Wide.All
import OpenK.AllK
import Wide.FinOn
import HandS.ForMost
import HandS.ForExc
import HandS.TupAny
import HandS.Flow
import HandS.IsInst
import HandS.Wide
import HandS.WideBits
import HandS.Deep
import HandS.CallSlots
import HandS.More
import PySem.Challenge.RW_middlesay_k01_sayings_or_not
set_option Elab.async false
set_option linter.all false
set_option maxRecDepth 100000
namespace DL
open PySem PySem.Spec L2

/-- values by what they are: tuples, lists that nobody changes any more, dicts likewise; loc n: the n-th object of the store -/
inductive U where
  | non | bl (b : Bool) | int (i : Int) | str (x : Str)
  | tup (us : List U) | lst (us : List U) | frz (us : List U)
  | dic (ks : List Key) (us : List U)
  | loc (n : Nat)
  | ty (n : String)
inductive Ob where
  | lst (us : List U) | dic (ks : List Key) (us : List U) | dead
abbrev Sto := List Ob
/-- an own exception: its class, what it was made of -/
structure Exc where
  cls : Str
  fld : Str
  arg : U
inductive R (α : Type) where
  | ok (a : α) (S : Sto) | exc (x : Exc) (S : Sto) | bad
abbrev En := List (Option U)
def R.bind {α β : Type} (r : R α) (k : α → Sto → R β) : R β := match r with
  | .ok a S => k a S
  | .exc x S => .exc x S
  | .bad => .bad
def Pst {α : Type} (r : R α) (P : α → Sto → Prop) (E : Exc → Sto → Prop) : Prop := match r with
  | .ok a S => P a S
  | .exc x S => E x S
  | .bad => False
theorem Pst.of_bind {α β : Type} {r : R α} {k : α → Sto → R β} {P : β → Sto → Prop} {E : Exc → Sto → Prop} (h : Pst (r.bind k) P E) : Pst r (fun a S => Pst (k a S) P E) E := by
  cases r <;> exact h
theorem Pst.mono {α : Type} {r : R α} {P P' : α → Sto → Prop} {E E' : Exc → Sto → Prop} (h : Pst r P E) (hp : ∀ a S, P a S → P' a S) (he : ∀ x S, E x S → E' x S) : Pst r P' E' := by
  cases r with
  | ok a S => exact hp _ _ h
  | exc x S => exact he _ _ h
  | bad => exact h

/-- a world: where the store's objects stand, the store, the abstract heap -/
structure Wd where
  m : List Addr
  S : Sto
  H : Hp
  r : List Addr
def Wd.kept (w : Wd) (a : Addr) : Prop := ∃ (n : Nat) (o : Ob), w.m[n]? = some a ∧ w.S[n]? = some o ∧ o ≠ Ob.dead
/-- what may change: the store's objects, lists that a comprehension is making -/
def Wd.live (w : Wd) (a : Addr) : Prop := a ∈ w.r ∨ w.kept a
/-- a list that never changes: known to the object, or of the module -/
def FzL (K : PySem.W.Frag) (H : Hp) (a : Addr) (xs : List V) : Prop := (∃ o, H a = some (.frz o (.lst xs))) ∨
    ∃ (o : Obj) (its : Array Value) (n : Nat), K.lookup a = some o ∧ o.cls = .type "list" ∧ o.dict = none ∧ o.data = .seq its n ∧ its.size ≤ sizeLine ∧ Vals xs its.toList
theorem FzL.sq {K : PySem.W.Frag} {H : Hp} {a : Addr} {xs : List V} (h : FzL K H a xs) : SqL K H a xs := by
  rcases h with h | h
  · exact .inl (.inr h)
  · exact .inr h
/-- a tuple, tracked or of the module -/
def TqT (K : PySem.W.Frag) (H : Hp) (a : Addr) (xs : List V) : Prop := H a = some (.tup xs) ∨
    ∃ (o : Obj) (its : Array Value) (n : Nat), K.lookup a = some o ∧ o.cls = .type "tuple" ∧ o.data = .seq its n ∧ its.size ≤ sizeLine ∧ Vals xs its.toList
theorem TqT.sq {K : PySem.W.Frag} {H : Hp} {a : Addr} {xs : List V} (h : TqT K H a xs) : SqT K H a xs := by
  rcases h with h | h
  · exact .inl (.inl h)
  · exact .inr h
theorem TqT.of {K : PySem.W.Frag} {H : Hp} {a : Addr} {xs : List V} (h : H a = some (.tup xs)) : TqT K H a xs := .inl h
mutual
inductive VR (K : PySem.W.Frag) (w : Wd) : U → V → Prop
  | non : VR K w .non .non
  | bl (b : Bool) : VR K w (.bl b) (.bl b)
  | int (i : Int) : VR K w (.int i) (.int i)
  | str (x : Str) : VR K w (.str x) (.str x)
  | tup {a : Addr} {xs : List V} {us : List U} : TqT K w.H a xs → VRs K w us xs → VR K w (.tup us) (.ref a)
  | lst {a : Addr} {xs : List V} {us : List U} : w.H a = some (.lst xs) → ¬ w.live a → VRs K w us xs → VR K w (.lst us) (.ref a)
  | frz {a : Addr} {xs : List V} {us : List U} : FzL K w.H a xs → VRs K w us xs → VR K w (.frz us) (.ref a)
  | dic {a : Addr} {ks : List Key} {xs : List V} {us : List U} : w.H a = some (.dK (ks.zip xs)) → ¬ w.live a → ks.length = us.length → VRs K w us xs → VR K w (.dic ks us) (.ref a)
  | loc {n : Nat} {a : Addr} : w.m[n]? = some a → VR K w (.loc n) (.ref a)
  | ty (n : String) : VR K w (.ty n) (.ty n)
inductive VRs (K : PySem.W.Frag) (w : Wd) : List U → List V → Prop
  | nil : VRs K w [] []
  | cons {u : U} {us : List U} {v : V} {vs : List V} : VR K w u v → VRs K w us vs → VRs K w (u :: us) (v :: vs)
end

/-- what stands of a world in a later one -/
structure Ext (w w' : Wd) : Prop where
  m : ∃ l, w'.m = w.m ++ l
  keep : ∀ a o, w.H a = some o → ¬ w.live a → w'.H a = some o
  live : ∀ a, w'.live a → w.live a ∨ w.H a = none
theorem Ext.refl (w : Wd) : Ext w w := ⟨⟨[], (List.append_nil _).symm⟩, fun _ _ h _ => h, fun _ h => .inl h⟩
theorem Ext.trans {w w1 w2 : Wd} (a : Ext w w1) (b : Ext w1 w2) : Ext w w2 := by
  obtain ⟨l1, e1⟩ := a.m
  obtain ⟨l2, e2⟩ := b.m
  refine ⟨⟨l1 ++ l2, by rw [e2, e1, List.append_assoc]⟩, fun c o h n => ?_, fun c h => ?_⟩
  · refine b.keep c o (a.keep c o h n) fun q => ?_
    rcases a.live c q with z | z
    · exact n z
    · rw [h] at z; cases z
  · rcases b.live c h with z | z
    · exact a.live c z
    · cases q : w.H c with
      | none => exact .inr rfl
      | some o =>
        by_cases n : w.live c
        · exact .inl n
        · rw [a.keep c o q n] at z; cases z
def OR (K : PySem.W.Frag) (w : Wd) : Ob → Addr → Prop
  | .lst us, a => ∃ xs, w.H a = some (.lst xs) ∧ VRs K w us xs
  | .dic ks us, a => ∃ xs, w.H a = some (.dK (ks.zip xs)) ∧ ks.length = us.length ∧ VRs K w us xs
  | .dead, _ => True
/-- a list or a dict -/
def MutO (o : HO) : Prop := (∃ xs, o = .lst xs) ∨ ∃ kvs, o = .dK kvs
structure SR (K : PySem.W.Frag) (w : Wd) : Prop where
  len : w.m.length = w.S.length
  inj : ∀ (i j : Nat) (a : Addr) (o o' : Ob), w.m[i]? = some a → w.m[j]? = some a → w.S[i]? = some o → w.S[j]? = some o' → o ≠ Ob.dead → o' ≠ .dead → i = j
  obj : ∀ (n : Nat) (a : Addr) (o : Ob), w.m[n]? = some a → w.S[n]? = some o → OR K w o a
  rk : ∀ a ∈ w.r, ∃ o, w.H a = some o ∧ MutO o
  rd : ∀ a ∈ w.r, ¬ w.kept a

section
variable {K : PySem.W.Frag} {w w' : Wd}
theorem SR.kind (s : SR K w) {a : Addr} (h : w.live a) : (∃ xs, w.H a = some (.lst xs)) ∨ ∃ kvs, w.H a = some (.dK kvs) := by
  rcases h with h | h
  · obtain ⟨o, e, m⟩ := s.rk a h
    exact m.imp (fun ⟨xs, q⟩ => ⟨xs, by rw [← q]; exact e⟩) fun ⟨xs, q⟩ => ⟨xs, by rw [← q]; exact e⟩
  obtain ⟨n, o, h1, h2, h3⟩ := h
  have q := s.obj n a o h1 h2
  cases o with
  | lst us => obtain ⟨xs, e, _⟩ := q; exact .inl ⟨xs, e⟩
  | dic ks us => obtain ⟨xs, e, _⟩ := q; exact .inr ⟨_, e⟩
  | dead => exact absurd rfl h3
theorem SR.notup (s : SR K w) {a : Addr} {xs : List V} (e : w.H a = some (.tup xs)) : ¬ w.live a := fun h => by
  rcases s.kind h with ⟨_, q⟩ | ⟨_, q⟩ <;> (rw [e] at q; cases q)
theorem SR.nofrz (s : SR K w) {a : Addr} {o : Obj} {u : HO} (e : w.H a = some (.frz o u)) : ¬ w.live a := fun h => by
  rcases s.kind h with ⟨_, q⟩ | ⟨_, q⟩ <;> (rw [e] at q; cases q)
theorem Ext.sqT (x : Ext w w') (s : SR K w) {a : Addr} {xs : List V} (h : TqT K w.H a xs) : TqT K w'.H a xs := by
  rcases h with h | h
  · exact .inl (x.keep _ _ h (s.notup h))
  · exact .inr h
theorem Ext.fz (x : Ext w w') (s : SR K w) {a : Addr} {xs : List V} (h : FzL K w.H a xs) : FzL K w'.H a xs := by
  rcases h with ⟨o, h⟩ | h
  · exact .inl ⟨o, x.keep _ _ h (s.nofrz h)⟩
  · exact .inr h
theorem Ext.dead (x : Ext w w') {a : Addr} {o : HO} (e : w.H a = some o) (n : ¬ w.live a) : ¬ w'.live a := fun h => by
  rcases x.live a h with z | z
  · exact n z
  · rw [e] at z; cases z
theorem Ext.at (x : Ext w w') {n : Nat} {a : Addr} (h : w.m[n]? = some a) : w'.m[n]? = some a := by
  obtain ⟨l, e⟩ := x.m
  rw [e]
  obtain ⟨hn, _⟩ := List.getElem?_eq_some_iff.mp h
  rw [List.getElem?_append_left hn]
  exact h
mutual
theorem VR.ext (x : Ext w w') (s : SR K w) : ∀ {u : U} {v : V}, VR K w u v → VR K w' u v
  | _, _, .non => .non
  | _, _, .bl b => .bl b
  | _, _, .int i => .int i
  | _, _, .str y => .str y
  | _, _, .tup h r => .tup (x.sqT s h) (VRs.ext x s r)
  | _, _, .lst h n r => .lst (x.keep _ _ h n) (x.dead h n) (VRs.ext x s r)
  | _, _, .frz h r => .frz (x.fz s h) (VRs.ext x s r)
  | _, _, .dic h n l r => .dic (x.keep _ _ h n) (x.dead h n) l (VRs.ext x s r)
  | _, _, .loc h => .loc (x.at h)
  | _, _, .ty n => .ty n
theorem VRs.ext (x : Ext w w') (s : SR K w) : ∀ {us : List U} {vs : List V}, VRs K w us vs → VRs K w' us vs
  | _, _, .nil => .nil
  | _, _, .cons h r => .cons (VR.ext x s h) (VRs.ext x s r)
end
theorem VRs.length : ∀ {us : List U} {vs : List V}, VRs K w us vs → us.length = vs.length
  | _, _, .nil => rfl
  | _, _, .cons _ r => by rw [List.length_cons, List.length_cons, VRs.length r]
theorem VRs.get : ∀ {us : List U} {vs : List V} {i : Nat} {u : U}, VRs K w us vs → us[i]? = some u → ∃ v, vs[i]? = some v ∧ VR K w u v
  | _, _, _, _, .nil, e => by simp at e
  | _, _, 0, _, .cons r _, e => by simp at e; subst e; exact ⟨_, rfl, r⟩
  | _, _, i + 1, u, .cons _ t, e => by
    obtain ⟨v, h1, h2⟩ := VRs.get (i := i) (u := u) t (by simpa using e)
    exact ⟨v, by simpa using h1, h2⟩
theorem VRs.get' : ∀ {us : List U} {vs : List V} {i : Nat} {v : V}, VRs K w us vs → vs[i]? = some v → ∃ u, us[i]? = some u ∧ VR K w u v
  | _, _, _, _, .nil, e => by simp at e
  | _, _, 0, _, .cons r _, e => by simp at e; subst e; exact ⟨_, rfl, r⟩
  | _, _, i + 1, v, .cons _ t, e => by
    obtain ⟨u, h1, h2⟩ := VRs.get' (i := i) (v := v) t (by simpa using e)
    exact ⟨u, by simpa using h1, h2⟩
theorem VRs.append : ∀ {us us' : List U} {vs vs' : List V}, VRs K w us vs → VRs K w us' vs' → VRs K w (us ++ us') (vs ++ vs')
  | _, _, _, _, .nil, s => s
  | _, _, _, _, .cons r t, s => .cons r (VRs.append t s)
theorem VRs.take : ∀ {us : List U} {vs : List V} (n : Nat), VRs K w us vs → VRs K w (us.take n) (vs.take n)
  | _, _, 0, _ => by rw [List.take_zero, List.take_zero]; exact .nil
  | _, _, _ + 1, .nil => by rw [List.take_nil, List.take_nil]; exact .nil
  | _, _, n + 1, .cons r t => by rw [List.take_succ_cons, List.take_succ_cons]; exact .cons r (VRs.take n t)
theorem VRs.drop : ∀ {us : List U} {vs : List V} (n : Nat), VRs K w us vs → VRs K w (us.drop n) (vs.drop n)
  | _, _, 0, r => by rw [List.drop_zero, List.drop_zero]; exact r
  | _, _, _ + 1, .nil => by rw [List.drop_nil, List.drop_nil]; exact .nil
  | _, _, n + 1, .cons _ t => by rw [List.drop_succ_cons, List.drop_succ_cons]; exact VRs.drop n t
theorem VRs.set {u : U} {v : V} (r : VR K w u v) : ∀ {us : List U} {vs : List V} (i : Nat), VRs K w us vs → VRs K w (us.set i u) (vs.set i v)
  | _, _, _, .nil => by rw [List.set_nil, List.set_nil]; exact .nil
  | _, _, 0, .cons _ t => .cons r t
  | _, _, i + 1, .cons q t => .cons q (VRs.set r i t)
theorem VRs.snoc {us : List U} {vs : List V} {u : U} {v : V} (h : VRs K w us vs) (r : VR K w u v) : VRs K w (us ++ [u]) (vs ++ [v]) := h.append (.cons r .nil)

/-! ### the worlds behind a step -/
/-- a new object that is not of the store -/
def Wd.new (w : Wd) (p : Addr) (o : HO) : Wd := ⟨w.m, w.S, upd w.H p o, w.r⟩
/-- a new object of the store -/
def Wd.push (w : Wd) (p : Addr) (o : HO) (b : Ob) : Wd := ⟨w.m ++ [p], w.S ++ [b], upd w.H p o, w.r⟩
/-- the object n of the store, at a, changed -/
def Wd.put (w : Wd) (n : Nat) (a : Addr) (o : HO) (b : Ob) : Wd := ⟨w.m, w.S.set n b, upd w.H a o, w.r⟩
/-- the object n left to be read alone -/
def Wd.ice (w : Wd) (n : Nat) : Wd := ⟨w.m, w.S.set n .dead, w.H, w.r⟩

theorem Wd.live_new {p a : Addr} {o : HO} : (w.new p o).live a ↔ w.live a := Iff.rfl
theorem SR.tracked (s : SR K w) {a : Addr} (h : w.live a) : w.H a ≠ none := fun e => by
  rcases s.kind h with ⟨_, q⟩ | ⟨_, q⟩ <;> (rw [e] at q; cases q)
theorem Ext.new (s : SR K w) {p : Addr} {o : HO} (hp : w.H p = none) : Ext w (w.new p o) :=
  ⟨⟨[], (List.append_nil _).symm⟩, fun a u h _ => by
    show upd w.H p o a = some u
    rw [upd_ne (ne_of_none h hp)]; exact h, fun _ h => .inl h⟩
theorem OR.ext (x : Ext w w') (s : SR K w) {o : Ob} {a : Addr} (h : OR K w o a) (e : w'.H a = w.H a) : OR K w' o a := by
  cases o with
  | lst us => obtain ⟨xs, q, r⟩ := h; exact ⟨xs, e.trans q, r.ext x s⟩
  | dic ks us => obtain ⟨xs, q, l, r⟩ := h; exact ⟨xs, e.trans q, l, r.ext x s⟩
  | dead => trivial
theorem SR.new (s : SR K w) {p : Addr} {o : HO} (hp : w.H p = none) : SR K (w.new p o) := by
  have x := Ext.new s (o := o) hp
  refine ⟨s.len, s.inj, fun n a b h1 h2 => ?_, fun a h => ?_, s.rd⟩
  · by_cases hb : b = .dead
    · subst hb; trivial
    · refine (s.obj n a b h1 h2).ext x s ?_
      show upd w.H p o a = w.H a
      rw [upd_ne fun e => ?_]
      subst e
      exact s.tracked (.inr ⟨n, b, h1, h2, hb⟩) hp
  · obtain ⟨xs, e, mo⟩ := s.rk a h
    exact ⟨xs, by show upd w.H p o a = _; rw [upd_ne (ne_of_none e hp)]; exact e, mo⟩
theorem get_snoc {α : Type} {l : List α} {x y : α} {n : Nat} (h : (l ++ [x])[n]? = some y) : l[n]? = some y ∨ (n = l.length ∧ y = x) := by
  by_cases hn : n < l.length
  · rw [List.getElem?_append_left hn] at h; exact .inl h
  · rw [List.getElem?_append_right (by omega)] at h
    have e : n - l.length = 0 := by
      cases q : n - l.length with
      | zero => rfl
      | succ k => rw [q] at h; simp at h
    rw [e] at h
    simp at h
    exact .inr ⟨by omega, h.symm⟩
theorem Wd.kept_push {p a : Addr} {o : HO} {b : Ob} (hl : w.m.length = w.S.length) (h : (w.push p o b).kept a) : w.kept a ∨ a = p := by
  obtain ⟨n, c, h1, h2, h3⟩ := h
  have h1 : (w.m ++ [p])[n]? = some a := h1
  have h2 : (w.S ++ [b])[n]? = some c := h2
  rcases get_snoc h1 with z | ⟨z, e⟩
  · rcases get_snoc h2 with y | ⟨y, _⟩
    · exact .inl ⟨n, c, z, y, h3⟩
    · have := (List.getElem?_eq_some_iff.mp z).1
      omega
  · exact .inr e
theorem Wd.live_push {p a : Addr} {o : HO} {b : Ob} (hl : w.m.length = w.S.length) (h : (w.push p o b).live a) : w.live a ∨ a = p := by
  rcases h with h | h
  · exact .inl (.inl h)
  · rcases Wd.kept_push hl h with z | z
    · exact .inl (.inr z)
    · exact .inr z
theorem Ext.push (s : SR K w) {p : Addr} {o : HO} {b : Ob} (hp : w.H p = none) : Ext w (w.push p o b) := by
  refine ⟨⟨[p], rfl⟩, fun a u h _ => ?_, fun a h => ?_⟩
  · show upd w.H p o a = some u
    rw [upd_ne (ne_of_none h hp)]; exact h
  · rcases Wd.live_push s.len h with z | z
    · exact .inl z
    · subst z; exact .inr hp
theorem SR.push (s : SR K w) {p : Addr} {o : HO} {b : Ob} (hp : w.H p = none) (hb : OR K (w.push p o b) b p) : SR K (w.push p o b) := by
  have x := Ext.push s (o := o) (b := b) hp
  have old : ∀ {n : Nat} {a : Addr} {c : Ob}, w.m[n]? = some a → w.S[n]? = some c → c ≠ Ob.dead → a ≠ p := fun {n a c} h1 h2 h3 e => by
    subst e
    exact s.tracked (.inr ⟨n, c, h1, h2, h3⟩) hp
  refine ⟨by show (w.m ++ [p]).length = (w.S ++ [b]).length; simp [s.len], fun i j a c c' h1 h2 h3 h4 d d' => ?_, fun n a c h1 h2 => ?_, fun a h => ?_, fun a h q => ?_⟩
  · have h1 : (w.m ++ [p])[i]? = some a := h1
    have h2 : (w.m ++ [p])[j]? = some a := h2
    have h3 : (w.S ++ [b])[i]? = some c := h3
    have h4 : (w.S ++ [b])[j]? = some c' := h4
    have hl := s.len
    rcases get_snoc h1 with z1 | ⟨z1, e1⟩ <;> rcases get_snoc h2 with z2 | ⟨z2, e2⟩ <;> rcases get_snoc h3 with z3 | ⟨z3, e3⟩ <;> rcases get_snoc h4 with z4 | ⟨z4, e4⟩
    all_goals first
      | omega
      | exact s.inj i j a c c' z1 z2 z3 z4 d d'
      | exact absurd e2 (old z1 z3 d)
      | exact absurd e1 (old z2 z4 d')
      | (have := (List.getElem?_eq_some_iff.mp z1).1; omega)
      | (have := (List.getElem?_eq_some_iff.mp z2).1; omega)
      | (have := (List.getElem?_eq_some_iff.mp z3).1; omega)
      | (have := (List.getElem?_eq_some_iff.mp z4).1; omega)
  · have h1 : (w.m ++ [p])[n]? = some a := h1
    have h2 : (w.S ++ [b])[n]? = some c := h2
    have hl := s.len
    rcases get_snoc h1 with z1 | ⟨z1, e1⟩
    · rcases get_snoc h2 with z2 | ⟨z2, e2⟩
      · by_cases hc : c = .dead
        · subst hc; trivial
        · refine (s.obj n a c z1 z2).ext x s ?_
          show upd w.H p o a = w.H a
          rw [upd_ne (old z1 z2 hc)]
      · have := (List.getElem?_eq_some_iff.mp z1).1
        omega
    · rcases get_snoc h2 with z2 | ⟨z2, e2⟩
      · have := (List.getElem?_eq_some_iff.mp z2).1
        omega
      · subst e1 e2; exact hb
  · obtain ⟨xs, e, mo⟩ := s.rk a h
    exact ⟨xs, by show upd w.H p o a = _; rw [upd_ne (ne_of_none e hp)]; exact e, mo⟩
  · rcases Wd.kept_push s.len q with z | z
    · exact s.rd a h z
    · subst z
      exact s.tracked (.inl h) hp
theorem get_set {α : Type} {l : List α} {x y : α} {n k : Nat} (h : (l.set n x)[k]? = some y) : (k = n ∧ y = x) ∨ (k ≠ n ∧ l[k]? = some y) := by
  by_cases e : k = n
  · subst e
    by_cases hk : k < l.length
    · rw [List.getElem?_set_self hk] at h; exact .inl ⟨rfl, (Option.some.inj h).symm⟩
    · rw [List.getElem?_eq_none (by simpa using hk)] at h; cases h
  · rw [List.getElem?_set_ne (Ne.symm e)] at h; exact .inr ⟨e, h⟩
theorem Wd.kept_set {n : Nat} {a c : Addr} {b : Ob} {H' : Hp} {r' : List Addr} (hm : w.m[n]? = some a) (hl : w.kept a) (h : (⟨w.m, w.S.set n b, H', r'⟩ : Wd).kept c) : w.kept c := by
  obtain ⟨k, o, h1, h2, h3⟩ := h
  have h1 : w.m[k]? = some c := h1
  rcases get_set h2 with ⟨e, _⟩ | ⟨_, z⟩
  · subst e; rw [hm] at h1; cases h1; exact hl
  · exact ⟨k, o, h1, z, h3⟩
theorem Ext.put (s : SR K w) {n : Nat} {a : Addr} {o : HO} {b b0 : Ob} (hm : w.m[n]? = some a) (hS : w.S[n]? = some b0) (hd : b0 ≠ Ob.dead) : Ext w (w.put n a o b) := by
  have hl : w.kept a := ⟨n, b0, hm, hS, hd⟩
  refine ⟨⟨[], (List.append_nil _).symm⟩, fun c u h nl => ?_, fun c h => .inl (h.elim .inl fun q => .inr (Wd.kept_set hm hl q))⟩
  show upd w.H a o c = some u
  rw [upd_ne fun e => nl (by subst e; exact .inr hl)]; exact h
theorem SR.put (s : SR K w) {n : Nat} {a : Addr} {o : HO} {b b0 : Ob} (hm : w.m[n]? = some a) (hS : w.S[n]? = some b0) (hd : b0 ≠ Ob.dead) (hb : OR K (w.put n a o b) b a) : SR K (w.put n a o b) := by
  have x := Ext.put s (o := o) (b := b) hm hS hd
  refine ⟨by show w.m.length = (w.S.set n b).length; simp [s.len], fun i j c d d' h1 h2 h3 h4 e e' => ?_, fun k c d h1 h2 => ?_, fun c h => ?_, fun c h q => s.rd c h (Wd.kept_set hm ⟨n, b0, hm, hS, hd⟩ q)⟩
  · have h1 : w.m[i]? = some c := h1
    have h2 : w.m[j]? = some c := h2
    have old : ∀ {k : Nat} {d : Ob}, (w.S.set n b)[k]? = some d → d ≠ Ob.dead → ∃ d0, w.S[k]? = some d0 ∧ d0 ≠ Ob.dead := fun {k d} q nd => by
      rcases get_set q with ⟨z, _⟩ | ⟨_, z⟩
      · subst z; exact ⟨b0, hS, hd⟩
      · exact ⟨d, z, nd⟩
    obtain ⟨p1, q1, r1⟩ := old h3 e
    obtain ⟨p2, q2, r2⟩ := old h4 e'
    exact s.inj i j c p1 p2 h1 h2 q1 q2 r1 r2
  · have h1 : w.m[k]? = some c := h1
    rcases get_set h2 with ⟨z, y⟩ | ⟨z, y⟩
    · subst z y
      have e := hm.symm.trans h1
      cases e
      exact hb
    · by_cases hc : d = .dead
      · subst hc; trivial
      · refine (s.obj k c d h1 y).ext x s ?_
        show upd w.H a o c = w.H c
        rw [upd_ne fun e => z ?_]
        subst e
        exact s.inj k n c d b0 h1 hm y hS hc hd
  · obtain ⟨xs, e, mo⟩ := s.rk c h
    refine ⟨xs, ?_, mo⟩
    show upd w.H a o c = _
    rw [upd_ne fun z => s.rd c h (by subst z; exact ⟨n, b0, hm, hS, hd⟩)]; exact e
theorem Wd.kept_ice {n : Nat} {c : Addr} (h : (w.ice n).kept c) : w.kept c := by
  obtain ⟨k, o, h1, h2, h3⟩ := h
  rcases get_set (show (w.S.set n .dead)[k]? = some o from h2) with ⟨_, e⟩ | ⟨_, z⟩
  · exact absurd e h3
  · exact ⟨k, o, h1, z, h3⟩
theorem Ext.ice (w : Wd) (n : Nat) : Ext w (w.ice n) := by
  exact ⟨⟨[], (List.append_nil _).symm⟩, fun _ _ h _ => h, fun c h => .inl (h.elim .inl fun q => .inr (Wd.kept_ice q))⟩
theorem SR.ice (s : SR K w) (n : Nat) : SR K (w.ice n) := by
  have x := Ext.ice w n
  have old : ∀ {k : Nat} {d : Ob}, (w.S.set n .dead)[k]? = some d → d ≠ Ob.dead → w.S[k]? = some d := fun {k d} q nd => by
    rcases get_set q with ⟨_, z⟩ | ⟨_, z⟩
    · exact absurd z nd
    · exact z
  refine ⟨by show w.m.length = (w.S.set n .dead).length; simp [s.len], fun i j c d d' h1 h2 h3 h4 e e' => s.inj i j c d d' h1 h2 (old h3 e) (old h4 e') e e', fun k c d h1 h2 => ?_, s.rk, fun c h q => s.rd c h (Wd.kept_ice q)⟩
  by_cases hc : d = .dead
  · subst hc; trivial
  · exact (s.obj k c d h1 (old h2 hc)).ext x s rfl
theorem live_ice (s : SR K w) {n : Nat} {a : Addr} {b : Ob} (hm : w.m[n]? = some a) (hS : w.S[n]? = some b) (hd : b ≠ Ob.dead) : ¬ (w.ice n).live a := fun h => by
  rcases h with h | h
  · exact s.rd a h ⟨n, b, hm, hS, hd⟩
  obtain ⟨k, o, h1, h2, h3⟩ := h
  have h1 : w.m[k]? = some a := h1
  rcases get_set (show (w.S.set n .dead)[k]? = some o from h2) with ⟨_, e⟩ | ⟨z, y⟩
  · exact h3 e
  · exact z (s.inj k n a o b h1 hm y hS h3 hd)

/-! ### a list that a comprehension is making -/
def Wd.hold (w : Wd) (D : Addr) (o : HO) : Wd := ⟨w.m, w.S, upd w.H D o, D :: w.r⟩
def Wd.grow (w : Wd) (D : Addr) (xs : List V) : Wd := ⟨w.m, w.S, upd w.H D (.lst xs), w.r⟩
theorem Ext.hold (s : SR K w) {D : Addr} {o : HO} (hp : w.H D = none) : Ext w (w.hold D o) := by
  refine ⟨⟨[], (List.append_nil _).symm⟩, fun a u h _ => ?_, fun a h => ?_⟩
  · show upd w.H D _ a = some u
    rw [upd_ne (ne_of_none h hp)]; exact h
  · rcases h with h | h
    · rcases List.mem_cons.mp h with z | z
      · subst z; exact .inr hp
      · exact .inl (.inl z)
    · exact .inl (.inr h)
theorem SR.hold (s : SR K w) {D : Addr} {o : HO} (hp : w.H D = none) (mo : MutO o) : SR K (w.hold D o) := by
  have x := Ext.hold s (o := o) hp
  have nd : ∀ {a : Addr}, w.live a → a ≠ D := fun {a} h e => by subst e; exact s.tracked h hp
  refine ⟨s.len, s.inj, fun n a b h1 h2 => ?_, fun a h => ?_, fun a h q => ?_⟩
  · by_cases hb : b = .dead
    · subst hb; trivial
    · refine (s.obj n a b h1 h2).ext x s ?_
      show upd w.H D _ a = w.H a
      rw [upd_ne (nd (.inr ⟨n, b, h1, h2, hb⟩))]
  · rcases List.mem_cons.mp h with z | z
    · subst z; exact ⟨o, upd_same, mo⟩
    · obtain ⟨ys, e, mo'⟩ := s.rk a z
      exact ⟨ys, by show upd w.H D _ a = _; rw [upd_ne (ne_of_none e hp)]; exact e, mo'⟩
  · rcases List.mem_cons.mp h with z | z
    · subst z; exact s.tracked (.inr q) hp
    · exact s.rd a z q
theorem Ext.grow {D : Addr} {xs : List V} (hD : D ∈ w.r) : Ext w (w.grow D xs) :=
  ⟨⟨[], (List.append_nil _).symm⟩, fun a u h nl => by
    show upd w.H D _ a = some u
    rw [upd_ne fun e => nl (by subst e; exact .inl hD)]; exact h, fun _ h => .inl h⟩
theorem SR.grow (s : SR K w) {D : Addr} {xs : List V} (hD : D ∈ w.r) : SR K (w.grow D xs) := by
  have x := Ext.grow (xs := xs) hD
  refine ⟨s.len, s.inj, fun n a b h1 h2 => ?_, fun a h => ?_, s.rd⟩
  · by_cases hb : b = .dead
    · subst hb; trivial
    · refine (s.obj n a b h1 h2).ext x s ?_
      show upd w.H D _ a = w.H a
      rw [upd_ne fun e => s.rd D hD (by subst e; exact ⟨n, b, h1, h2, hb⟩)]
  · by_cases e : a = D
    · subst e; exact ⟨_, upd_same, .inl ⟨xs, rfl⟩⟩
    · obtain ⟨ys, q, mo⟩ := s.rk a h
      exact ⟨ys, by show upd w.H D _ a = _; rw [upd_ne e]; exact q, mo⟩
theorem let_go_r {D : Addr} {l : List Addr} (h : D ∉ l) : (D :: l).filter (fun a => decide (a ≠ D)) = l := by
  rw [List.filter_cons_of_neg (by simp)]
  exact List.filter_eq_self.mpr fun a ha => decide_eq_true fun e => h (by subst e; exact ha)
/-- a step: what stands stays, the lists in the making are the same -/
structure Stp (w w' : Wd) : Prop where
  x : Ext w w'
  r : w'.r = w.r
  k : ∀ a ∈ w.r, w'.H a = w.H a
theorem Stp.refl (w : Wd) : Stp w w := ⟨Ext.refl w, rfl, fun _ _ => rfl⟩
theorem Stp.trans {w w1 w2 : Wd} (a : Stp w w1) (b : Stp w1 w2) : Stp w w2 := ⟨a.x.trans b.x, b.r.trans a.r, fun c h => (b.k c (by rw [a.r]; exact h)).trans (a.k c h)⟩
theorem Stp.new (s : SR K w) {p : Addr} {o : HO} (hp : w.H p = none) : Stp w (w.new p o) := ⟨Ext.new s hp, rfl, fun a h => by
  show upd w.H p o a = w.H a
  rw [upd_ne fun e => s.tracked (.inl h) (by rw [e]; exact hp)]⟩
theorem Stp.push (s : SR K w) {p : Addr} {o : HO} {b : Ob} (hp : w.H p = none) : Stp w (w.push p o b) := ⟨Ext.push s hp, rfl, fun a h => by
  show upd w.H p o a = w.H a
  rw [upd_ne fun e => s.tracked (.inl h) (by rw [e]; exact hp)]⟩
theorem Stp.put (s : SR K w) {n : Nat} {a : Addr} {o : HO} {b b0 : Ob} (hm : w.m[n]? = some a) (hS : w.S[n]? = some b0) (hd : b0 ≠ .dead) : Stp w (w.put n a o b) := ⟨Ext.put s hm hS hd, rfl, fun c h => by
  show upd w.H a o c = w.H c
  rw [upd_ne fun e => s.rd c h (by rw [e]; exact ⟨n, b0, hm, hS, hd⟩)]⟩
theorem Stp.ice (w : Wd) (n : Nat) : Stp w (w.ice n) := ⟨Ext.ice w n, rfl, fun _ _ => rfl⟩

/-! ### the list is made: it is no more tracked -/
def Wd.cut (w : Wd) (D : Addr) : Wd := ⟨w.m, w.S, fun b => if b = D then none else w.H b, w.r.filter fun a => decide (a ≠ D)⟩
theorem cut_at {D a : Addr} (h : a ≠ D) : (w.cut D).H a = w.H a := if_neg h
theorem cut_D {D : Addr} : (w.cut D).H D = none := if_pos rfl
theorem cut_back {D : Addr} {o : HO} (h : w.H D = some o) : upd (w.cut D).H D o = w.H := by
  funext b
  by_cases e : b = D
  · subst e; rw [upd_same, h]
  · rw [upd_ne e, cut_at e]
theorem live_cut {D a : Addr} (h : (w.cut D).live a) : w.live a := h.elim (fun q => .inl (List.mem_filter.mp q).1) .inr
mutual
theorem VR.cut {D : Addr} {o : HO} (hD : w.live D) (hx : w.H D = some o) (mo : MutO o) : ∀ {u : U} {v : V}, VR K w u v → VR K (w.cut D) u v
  | _, _, .non => .non
  | _, _, .bl b => .bl b
  | _, _, .int i => .int i
  | _, _, .str y => .str y
  | _, _, .tup h r => .tup (h.imp (fun q => (cut_at (ne_of q hx (fun z => by rcases mo with ⟨_, y⟩ | ⟨_, y⟩ <;> (rw [y] at z; cases z)))).trans q) id) (VRs.cut hD hx mo r)
  | _, _, .lst h n r => .lst ((cut_at (fun e => n (by rw [e]; exact hD))).trans h) (fun q => n (live_cut q)) (VRs.cut hD hx mo r)
  | _, _, .frz h r => .frz (h.imp (fun ⟨o, q⟩ => ⟨o, (cut_at (ne_of q hx (fun z => by rcases mo with ⟨_, y⟩ | ⟨_, y⟩ <;> (rw [y] at z; cases z)))).trans q⟩) id) (VRs.cut hD hx mo r)
  | _, _, .dic h n l r => .dic ((cut_at (fun e => n (by rw [e]; exact hD))).trans h) (fun q => n (live_cut q)) l (VRs.cut hD hx mo r)
  | _, _, .loc h => .loc h
  | _, _, .ty n => .ty n
theorem VRs.cut {D : Addr} {o : HO} (hD : w.live D) (hx : w.H D = some o) (mo : MutO o) : ∀ {us : List U} {vs : List V}, VRs K w us vs → VRs K (w.cut D) us vs
  | _, _, .nil => .nil
  | _, _, .cons h r => .cons (VR.cut hD hx mo h) (VRs.cut hD hx mo r)
end
theorem SR.cut (s : SR K w) {D : Addr} (hD : D ∈ w.r) : SR K (w.cut D) := by
  obtain ⟨ys, hx, mo⟩ := s.rk D hD
  have ne : ∀ {n : Nat} {a : Addr} {o : Ob}, w.m[n]? = some a → w.S[n]? = some o → o ≠ Ob.dead → a ≠ D := fun {n a o} h1 h2 h3 e => s.rd D hD (by rw [← e]; exact ⟨n, o, h1, h2, h3⟩)
  refine ⟨s.len, s.inj, fun n a o h1 h2 => ?_, fun a h => ?_, fun a h q => s.rd a (List.mem_filter.mp h).1 q⟩
  · have q := s.obj n a o h1 h2
    cases o with
    | lst us => obtain ⟨xs, e, r⟩ := q; exact ⟨xs, (cut_at (ne h1 h2 (by intro z; cases z))).trans e, r.cut (.inl hD) hx mo⟩
    | dic ks us => obtain ⟨xs, e, l, r⟩ := q; exact ⟨xs, (cut_at (ne h1 h2 (by intro z; cases z))).trans e, l, r.cut (.inl hD) hx mo⟩
    | dead => trivial
  · obtain ⟨h1, h2⟩ := List.mem_filter.mp h
    obtain ⟨xs, e, mo'⟩ := s.rk a h1
    exact ⟨xs, (cut_at (of_decide_eq_true h2)).trans e, mo'⟩
theorem Ext.cut {w1 : Wd} {D : Addr} (x : Ext w1 w) (h0 : w1.H D = none) : Ext w1 (w.cut D) :=
  ⟨x.m, fun a o h n => (cut_at (ne_of_none h h0)).trans (x.keep a o h n), fun a h => x.live a (live_cut h)⟩

/-! ### the names' values -/
structure ER (K : PySem.W.Frag) (w : Wd) (d : En) (σ : St) : Prop where
  len : d.length = σ.length
  get : ∀ (i : Nat) (u : U), d[i]? = some (some u) → ∃ v, σ[i]? = some (some v) ∧ VR K w u v
theorem ER.ext {d : En} {σ : St} (x : Ext w w') (s : SR K w) (e : ER K w d σ) : ER K w' d σ :=
  ⟨e.len, fun i u h => let ⟨v, h1, h2⟩ := e.get i u h; ⟨v, h1, h2.ext x s⟩⟩
theorem ER.set {d : En} {σ : St} {u : U} {v : V} (e : ER K w d σ) (i : Nat) (r : VR K w u v) : ER K w (d.set i (some u)) (σ.set i (some v)) := by
  refine ⟨by simp [e.len], fun j y h => ?_⟩
  rcases get_set h with ⟨z, q⟩ | ⟨z, q⟩
  · subst z
    cases q
    have hj : j < σ.length := by
      have := (List.getElem?_eq_some_iff.mp h).1
      simpa [e.len] using this
    exact ⟨v, List.getElem?_set_self hj, r⟩
  · obtain ⟨x, h1, h2⟩ := e.get j y q
    exact ⟨x, by rw [List.getElem?_set_ne (Ne.symm z)]; exact h1, h2⟩
theorem ER.forget {d : En} {σ : St} (e : ER K w d σ) (i : Nat) (o : Option V) : ER K w (d.set i none) (σ.set i o) := by
  refine ⟨by simp [e.len], fun j y h => ?_⟩
  rcases get_set h with ⟨z, q⟩ | ⟨z, q⟩
  · cases q
  · obtain ⟨x, h1, h2⟩ := e.get j y q
    exact ⟨x, by rw [List.getElem?_set_ne (Ne.symm z)]; exact h1, h2⟩
def enStart (n : Nat) (us : List U) : En := us.map some ++ List.replicate (n - us.length) none
theorem ER.start {N : List Str} {us : List U} {vs : List V} (r : VRs K w us vs) : ER K w (enStart N.length us) (start N vs) := by
  refine ⟨by simp [enStart, L2.start, r.length], fun i u h => ?_⟩
  unfold enStart at h
  by_cases hi : i < us.length
  · rw [List.getElem?_append_left (by simpa using hi), List.getElem?_map] at h
    cases q : us[i]? with
    | none => rw [q] at h; cases h
    | some y =>
      rw [q] at h
      cases h
      obtain ⟨v, h1, h2⟩ := r.get q
      refine ⟨v, ?_, h2⟩
      unfold L2.start
      rw [List.getElem?_append_left (by simpa [← r.length] using hi), List.getElem?_map, h1]
      rfl
  · rw [List.getElem?_append_right (by simpa using hi)] at h
    have := List.mem_of_getElem? h
    rw [List.mem_replicate] at this
    cases this.2
end
end DL

set_option Elab.async false
set_option linter.all false
set_option maxRecDepth 100000
namespace DL
open PySem PySem.Spec L2

abbrev FE := En → Sto → R U
abbrev FT := En → Sto → R Bool
abbrev FA := En → Sto → R (List U)
inductive Fl where
  | nx (d : En) | rt (u : U) | bk (d : En) | ct (d : En) | ex (x : Exc) (d : En)
abbrev FS := En → Sto → R Fl

/-- an exception in the air: its class, its own dict -/
def XRel (K : PySem.W.Frag) (mg : Str → Option Value) (w : Wd) (x : Exc) (cls : Value) (d : Option Addr) : Prop :=
  mg x.cls = some cls ∧ ∃ (dd : Addr) (v : V), d = some dd ∧ w.H dd = some (.xd [(x.fld, v)]) ∧ VR K w x.arg v
def XPost (X : Cx) (Wx : WX) (σ : L2.St) (w : Wd) (x : Exc) (S' : Sto) : Prop :=
  ∀ (w' : Wd) (cls : Value) (d : Option Addr), w'.S = S' → Stp w w' → SR X.K w' → XRel X.K X.mg w' x cls d → Wx cls d σ w'.H
def OkE (X : Cx) (w : Wd) (Q : VK) (u : U) (S' : Sto) : Prop :=
  ∀ (w' : Wd) (v : V), w'.S = S' → Stp w w' → SR X.K w' → VR X.K w' u v → Q v w'.H
def OkT (X : Cx) (w : Wd) (Q : Bool → Hp → Prop) (b : Bool) (S' : Sto) : Prop :=
  ∀ (w' : Wd), w'.S = S' → Stp w w' → SR X.K w' → Q b w'.H
def OkA (X : Cx) (w : Wd) (Q : List V → Hp → Prop) (us : List U) (S' : Sto) : Prop :=
  ∀ (w' : Wd) (vs : List V), w'.S = S' → Stp w w' → SR X.K w' → VRs X.K w' us vs → Q vs w'.H
/-- a new list -/
def OkL (X : Cx) (w : Wd) (Q : VK) (us : List U) (S' : Sto) : Prop :=
  ∀ (w' : Wd) (p : Addr) (xs : List V), w'.S = S' → Stp w w' → SR X.K w' → VRs X.K w' us xs → w'.H p = none → Q (.ref p) (upd w'.H p (.lst xs))
def OkS (X : Cx) (Wx : WX) (w : Wd) (D : Ends) (fl : Fl) (S' : Sto) : Prop :=
  ∀ (w' : Wd), w'.S = S' → Stp w w' → SR X.K w' → match fl with
    | .nx d => ∀ σ', ER X.K w' d σ' → D.nx σ' w'.H
    | .rt u => ∀ v, VR X.K w' u v → D.rt v w'.H
    | .bk d => ∀ σ', ER X.K w' d σ' → D.bk σ' w'.H
    | .ct d => ∀ σ', ER X.K w' d σ' → D.ct σ' w'.H
    | .ex x d => ∀ σ', ER X.K w' d σ' → ∀ (cls : Value) (dd : Option Addr), XRel X.K X.mg w' x cls dd → Wx cls dd σ' w'.H
section
variable {X : Cx} {Wx : WX} {w w1 : Wd}
theorem XPost.up {σ : L2.St} {x : Exc} {S' : Sto} (h : XPost X Wx σ w x S') (st : Stp w w1) : XPost X Wx σ w1 x S' := fun w' cls d e s2 sr xr => h w' cls d e (st.trans s2) sr xr
theorem OkE.up {Q : VK} {u : U} {S' : Sto} (h : OkE X w Q u S') (st : Stp w w1) : OkE X w1 Q u S' := fun w' v e s2 sr r => h w' v e (st.trans s2) sr r
theorem OkT.up {Q : Bool → Hp → Prop} {u : Bool} {S' : Sto} (h : OkT X w Q u S') (st : Stp w w1) : OkT X w1 Q u S' := fun w' e s2 sr => h w' e (st.trans s2) sr
theorem OkA.up {Q : List V → Hp → Prop} {u : List U} {S' : Sto} (h : OkA X w Q u S') (st : Stp w w1) : OkA X w1 Q u S' := fun w' v e s2 sr r => h w' v e (st.trans s2) sr r
theorem OkL.up {Q : VK} {u : List U} {S' : Sto} (h : OkL X w Q u S') (st : Stp w w1) : OkL X w1 Q u S' := fun w' p xs e s2 sr r hp => h w' p xs e (st.trans s2) sr r hp
theorem OkS.up {D : Ends} {fl : Fl} {S' : Sto} (h : OkS X Wx w D fl S') (st : Stp w w1) : OkS X Wx w1 D fl S' := fun w' e s2 sr => h w' e (st.trans s2) sr
theorem OkE.here {Q : VK} {u : U} (h : OkE X w Q u w.S) (s : SR X.K w) {v : V} (r : VR X.K w u v) : Q v w.H := h w v rfl (Stp.refl w) s r
end

/-- the reading of an expression that does f -/
def tE (X : Cx) (Wx : WX) (f : FE) : TE := fun σ H Q => ∃ (w : Wd) (d : En), w.H = H ∧ SR X.K w ∧ ER X.K w d σ ∧ Pst (f d w.S) (OkE X w Q) (XPost X Wx σ w)
def tT (X : Cx) (Wx : WX) (f : FT) : TT := fun σ H Q => ∃ (w : Wd) (d : En), w.H = H ∧ SR X.K w ∧ ER X.K w d σ ∧ Pst (f d w.S) (OkT X w Q) (XPost X Wx σ w)
def tA (X : Cx) (Wx : WX) (f : FA) : TA := fun σ H Q => ∃ (w : Wd) (d : En), w.H = H ∧ SR X.K w ∧ ER X.K w d σ ∧ Pst (f d w.S) (OkA X w Q) (XPost X Wx σ w)
def tL (X : Cx) (Wx : WX) (f : FA) : TE := fun σ H Q => ∃ (w : Wd) (d : En), w.H = H ∧ SR X.K w ∧ ER X.K w d σ ∧ Pst (f d w.S) (OkL X w Q) (XPost X Wx σ w)
def tS (X : Cx) (Wx : WX) (f : FS) : TS := fun D σ H => ∃ (w : Wd) (d : En), w.H = H ∧ SR X.K w ∧ ER X.K w d σ ∧ Pst (f d w.S) (OkS X Wx w D) (fun _ _ => False)
def SimE (X : Cx) (Wx : WX) (e : Expr) (f : FE) : Prop := PE X e (tE X Wx f)
def SimT (X : Cx) (Wx : WX) (e : Expr) (f : FT) : Prop := PT X e (tT X Wx f)
def SimW (X : Cx) (Wx : WX) (e : Expr) (f : FT) : Prop := PW X e (tT X Wx f)
def SimA (X : Cx) (Wx : WX) (es : List Expr) (f : FA) : Prop := PA X es (tA X Wx f)
/-- an expression that makes a new list -/
def SimL (X : Cx) (Wx : WX) (e : Expr) (f : FA) : Prop := PE X e (tL X Wx f)
def SimS (X : Cx) (Wx : WX) (st : Stmt) (f : FS) : Prop := PS X st (tS X Wx f)
def SimB (X : Cx) (Wx : WX) (sts : List Stmt) (f : FS) : Prop := PSs X sts (tS X Wx f)
section
variable {X : Cx} {Wx : WX} {e : Expr} {es : List Expr} {st : Stmt} {sts : List Stmt}
theorem SimE.out {f : FE} (h : SimE X Wx e f) : ∃ t, PE X e t ∧ ∀ (w : Wd) (d : En) (σ : L2.St) (Q : VK), SR X.K w → ER X.K w d σ → Pst (f d w.S) (OkE X w Q) (XPost X Wx σ w) → t σ w.H Q := ⟨_, h, fun w d _ _ s e p => ⟨w, d, rfl, s, e, p⟩⟩
theorem SimE.mk {f : FE} {t : TE} (p : PE X e t) (h : ∀ (w : Wd) (d : En) (σ : L2.St) (Q : VK), SR X.K w → ER X.K w d σ → Pst (f d w.S) (OkE X w Q) (XPost X Wx σ w) → t σ w.H Q) : SimE X Wx e f :=
  ⟨fun pins s σ H Q I ⟨w, d, e, sr, er, q⟩ => p.run pins s σ H Q I (by subst e; exact h w d σ Q sr er q)⟩
theorem SimL.out {f : FA} (h : SimL X Wx e f) : ∃ t, PE X e t ∧ ∀ (w : Wd) (d : En) (σ : L2.St) (Q : VK), SR X.K w → ER X.K w d σ → Pst (f d w.S) (OkL X w Q) (XPost X Wx σ w) → t σ w.H Q := ⟨_, h, fun w d _ _ s e p => ⟨w, d, rfl, s, e, p⟩⟩
theorem SimL.mk {f : FA} {t : TE} (p : PE X e t) (h : ∀ (w : Wd) (d : En) (σ : L2.St) (Q : VK), SR X.K w → ER X.K w d σ → Pst (f d w.S) (OkL X w Q) (XPost X Wx σ w) → t σ w.H Q) : SimL X Wx e f :=
  ⟨fun pins s σ H Q I ⟨w, d, e, sr, er, q⟩ => p.run pins s σ H Q I (by subst e; exact h w d σ Q sr er q)⟩
theorem SimT.out {f : FT} (h : SimT X Wx e f) : ∃ t, PT X e t ∧ ∀ (w : Wd) (d : En) (σ : L2.St) (Q : Bool → Hp → Prop), SR X.K w → ER X.K w d σ → Pst (f d w.S) (OkT X w Q) (XPost X Wx σ w) → t σ w.H Q := ⟨_, h, fun w d _ _ s e p => ⟨w, d, rfl, s, e, p⟩⟩
theorem SimT.mk {f : FT} {t : TT} (p : PT X e t) (h : ∀ (w : Wd) (d : En) (σ : L2.St) (Q : Bool → Hp → Prop), SR X.K w → ER X.K w d σ → Pst (f d w.S) (OkT X w Q) (XPost X Wx σ w) → t σ w.H Q) : SimT X Wx e f :=
  ⟨fun pins s σ H Q I ⟨w, d, e, sr, er, q⟩ => p.run pins s σ H Q I (by subst e; exact h w d σ Q sr er q)⟩
theorem SimW.out {f : FT} (h : SimW X Wx e f) : ∃ t, PW X e t ∧ ∀ (w : Wd) (d : En) (σ : L2.St) (Q : Bool → Hp → Prop), SR X.K w → ER X.K w d σ → Pst (f d w.S) (OkT X w Q) (XPost X Wx σ w) → t σ w.H Q := ⟨_, h, fun w d _ _ s e p => ⟨w, d, rfl, s, e, p⟩⟩
theorem SimW.mk {f : FT} {t : TT} (p : PW X e t) (h : ∀ (w : Wd) (d : En) (σ : L2.St) (Q : Bool → Hp → Prop), SR X.K w → ER X.K w d σ → Pst (f d w.S) (OkT X w Q) (XPost X Wx σ w) → t σ w.H Q) : SimW X Wx e f :=
  ⟨fun whole pins s σ H Q I ⟨w, d, e, sr, er, q⟩ => p.run whole pins s σ H Q I (by subst e; exact h w d σ Q sr er q)⟩
theorem SimA.out {f : FA} (h : SimA X Wx es f) : ∃ t, PA X es t ∧ ∀ (w : Wd) (d : En) (σ : L2.St) (Q : List V → Hp → Prop), SR X.K w → ER X.K w d σ → Pst (f d w.S) (OkA X w Q) (XPost X Wx σ w) → t σ w.H Q := ⟨_, h, fun w d _ _ s e p => ⟨w, d, rfl, s, e, p⟩⟩
theorem SimA.mk {f : FA} {t : TA} (p : PA X es t) (h : ∀ (w : Wd) (d : En) (σ : L2.St) (Q : List V → Hp → Prop), SR X.K w → ER X.K w d σ → Pst (f d w.S) (OkA X w Q) (XPost X Wx σ w) → t σ w.H Q) : SimA X Wx es f :=
  ⟨fun pos pins s σ H Q I ⟨w, d, e, sr, er, q⟩ => p.run pos pins s σ H Q I (by subst e; exact h w d σ Q sr er q)⟩
theorem SimS.out {f : FS} (h : SimS X Wx st f) : ∃ t, PS X st t ∧ ∀ (w : Wd) (d : En) (σ : L2.St) (D : Ends), SR X.K w → ER X.K w d σ → Pst (f d w.S) (OkS X Wx w D) (fun _ _ => False) → t D σ w.H := ⟨_, h, fun w d _ _ s e p => ⟨w, d, rfl, s, e, p⟩⟩
theorem SimS.mk {f : FS} {t : TS} (p : PS X st t) (h : ∀ (w : Wd) (d : En) (σ : L2.St) (D : Ends), SR X.K w → ER X.K w d σ → Pst (f d w.S) (OkS X Wx w D) (fun _ _ => False) → t D σ w.H) : SimS X Wx st f :=
  ⟨fun pins s σ H D I ⟨w, d, e, sr, er, q⟩ => p.run pins s σ H D I (by subst e; exact h w d σ D sr er q)⟩
theorem SimB.out {f : FS} (h : SimB X Wx sts f) : ∃ t, PSs X sts t ∧ ∀ (w : Wd) (d : En) (σ : L2.St) (D : Ends), SR X.K w → ER X.K w d σ → Pst (f d w.S) (OkS X Wx w D) (fun _ _ => False) → t D σ w.H := ⟨_, h, fun w d _ _ s e p => ⟨w, d, rfl, s, e, p⟩⟩
theorem SimB.mk {f : FS} {t : TS} (p : PSs X sts t) (h : ∀ (w : Wd) (d : En) (σ : L2.St) (D : Ends), SR X.K w → ER X.K w d σ → Pst (f d w.S) (OkS X Wx w D) (fun _ _ => False) → t D σ w.H) : SimB X Wx sts f :=
  ⟨fun pins s σ H D I ⟨w, d, e, sr, er, q⟩ => p.run pins s σ H D I (by subst e; exact h w d σ D sr er q)⟩
end

/-! ### names, constants -/
def fVar (i : Nat) : FE := fun d S => match d[i]? with
  | some (some u) => .ok u S
  | _ => .bad
def fC (u : U) : FE := fun _ S => .ok u S
section
variable {X : Cx} {Wx : WX}
theorem se_var (i : Nat) {x : Str} {pos : Pos} (hN : X.N[i]? = some x := by rfl) (hv : Vis X.env.scope x := by first | exact Or.inl rfl | exact Or.inr (Or.inl rfl) | exact Or.inr (Or.inr rfl))
    (hd : (x == ("__debug__" : Str)) = false := by decide) (hcd : (x == ("__classdict__" : Str)) = false := by decide) : SimE X Wx (.Name x pos) (fVar i) := by
  refine SimE.mk (pe_var hN hv hd hcd) (fun w d σ Q s e h => ?_)
  unfold fVar at h
  split at h
  · rename_i u hu
    obtain ⟨v, h1, h2⟩ := e.get i u hu
    exact ⟨v, h1, OkE.here h s h2⟩
  · exact h.elim
theorem se_int {i : Int} {j pos} : SimE X Wx (.Constant (.int i) j pos) (fC (.int i)) := SimE.mk (pe_int) (fun w d σ Q s e h => OkE.here h s (.int i))
theorem se_bl {b : Bool} {j pos} : SimE X Wx (.Constant (.bool b) j pos) (fC (.bl b)) := SimE.mk (pe_bl) (fun w d σ Q s e h => OkE.here h s (.bl b))
theorem se_non {j pos} : SimE X Wx (.Constant .none j pos) (fC .non) := SimE.mk (pe_non) (fun w d σ Q s e h => OkE.here h s .non)
theorem se_str {x : Str} {j pos} : SimE X Wx (.Constant (.str x) j pos) (fC (.str x)) := SimE.mk (pe_str) (fun w d σ Q s e h => OkE.here h s (.str x))
/-- a module's name: a constant -/
theorem se_glob {x : Str} {v : V} {u : U} {z : Value} {pos : Pos} (hg : Gl X x) (hm : X.mg x = some z) (r : RelV v z) (hv : ∀ w, VR X.K w u v) (hd : (x == ("__debug__" : Str)) = false := by decide) : SimE X Wx (.Name x pos) (fC u) :=
  SimE.mk (pe_glob hg hm r hd) (fun w d σ Q s e h => OkE.here h s (hv w))
theorem se_bltn {x : Str} {v : V} {u : U} {z : Value} {pos : Pos} (hg : Gl X x) (hm : X.mg x = none) (hv : bootBuiltins x = some z) (r : RelV v z) (hr : ∀ w, VR X.K w u v) (hn : x ≠ "__name__" := by decide) (hd : (x == ("__debug__" : Str)) = false := by decide) : SimE X Wx (.Name x pos) (fC u) :=
  SimE.mk (pe_bltn hg hm hv r hn hd) (fun w d σ Q s e h => OkE.here h s (hr w))

/-! ### two values -/
def OpSim (X : Cx) (F : Value → Value → Sem Value) (g : U → U → Sto → R U) : Prop := ∃ r, OpR X F r ∧
  ∀ (w : Wd) (x y : U) (v v' : V) (Q : VK), SR X.K w → VR X.K w x v → VR X.K w y v' → Pst (g x y w.S) (OkE X w Q) (fun _ _ => False) → r v v' w.H Q
def f2 (g : U → U → Sto → R U) (fa fb : FE) : FE := fun d S => (fa d S).bind fun x S1 => (fb d S1).bind fun y S2 => g x y S2
/-- what g does to no exception -/
def noX (r : R U) : Prop := match r with
  | .exc _ _ => False
  | _ => True
theorem pst_noX {r : R U} {P : U → Sto → Prop} {E : Exc → Sto → Prop} (h : Pst r P E) (n : noX r) : Pst r P (fun _ _ => False) := by
  cases r with
  | ok a S => exact h
  | exc x S => exact n
  | bad => exact h
theorem two {a b : Expr} {ta tb : TE} {fa fb : FE}
    (ha : ∀ (w : Wd) (d : En) (σ : L2.St) (Q : VK), SR X.K w → ER X.K w d σ → Pst (fa d w.S) (OkE X w Q) (XPost X Wx σ w) → ta σ w.H Q)
    (hb : ∀ (w : Wd) (d : En) (σ : L2.St) (Q : VK), SR X.K w → ER X.K w d σ → Pst (fb d w.S) (OkE X w Q) (XPost X Wx σ w) → tb σ w.H Q)
    {g : U → U → Sto → R U} {r : R2} (hg : ∀ (w : Wd) (x y : U) (v v' : V) (Q : VK), SR X.K w → VR X.K w x v → VR X.K w y v' → Pst (g x y w.S) (OkE X w Q) (fun _ _ => False) → r v v' w.H Q) (hn : ∀ x y S, noX (g x y S))
    (w : Wd) (d : En) (σ : L2.St) (Q : VK) (s : SR X.K w) (e : ER X.K w d σ) (h : Pst (f2 g fa fb d w.S) (OkE X w Q) (XPost X Wx σ w)) :
    ta σ w.H fun x H1 => tb σ H1 fun y H2 => r x y H2 Q := by
  refine ha w d σ _ s e ((Pst.of_bind h).mono (fun x S1 h1 w1 v1 eS st s1 r1 => ?_) fun _ _ q => q)
  subst eS
  refine hb w1 d σ _ s1 (e.ext st.x s) ((Pst.of_bind h1).mono (fun y S2 h2 w2 v2 eS2 st2 s2 r2 => ?_) fun _ _ q => q.up st)
  subst eS2
  exact hg w2 x y v1 v2 Q s2 (r1.ext st2.x s1) r2 ((pst_noX h2 (hn x y w2.S)).mono (fun _ _ q => q.up (st.trans st2)) fun _ _ q => q)
theorem se_op {a b : Expr} {fa fb : FE} {op : Operator} {g : U → U → Sto → R U} {pos : Pos} (ho : OpSim X (binaryOp op) g) (hn : ∀ x y S, noX (g x y S)) (ha : SimE X Wx a fa) (hb : SimE X Wx b fb) : SimE X Wx (.BinOp a op b pos) (f2 g fa fb) := by
  obtain ⟨r, ho, hg⟩ := ho
  obtain ⟨ta, pa, ha⟩ := ha.out
  obtain ⟨tb, pb, hb⟩ := hb.out
  exact SimE.mk (pe_op ho pa pb) (fun w d σ Q s e h => two (a := a) (b := b) ha hb hg hn w d σ Q s e h)
theorem se_cmp {a b : Expr} {fa fb : FE} {op : CmpOp} {g : U → U → Sto → R U} {pos : Pos} (ho : OpSim X (compareOp op) g) (hn : ∀ x y S, noX (g x y S)) (ha : SimE X Wx a fa) (hb : SimE X Wx b fb) (hm : behindInMarks op b = false) : SimE X Wx (.Compare a [op] [b] pos) (f2 g fa fb) := by
  obtain ⟨r, ho, hg⟩ := ho
  obtain ⟨ta, pa, ha⟩ := ha.out
  obtain ⟨tb, pb, hb⟩ := hb.out
  exact SimE.mk (pe_cmpR ho pa pb hm) (fun w d σ Q s e h => two (a := a) (b := b) ha hb hg hn w d σ Q s e h)
/-- a bool as a test's answer -/
def asB (r : R U) : R Bool := r.bind fun u S => match u with
  | .bl b => .ok b S
  | _ => .bad
theorem asB_post {r : R U} {w : Wd} {Q : Bool → Hp → Prop} {E : Exc → Sto → Prop} (h : Pst (asB r) (OkT X w Q) E) : Pst r (OkE X w fun x H => ∃ k, x = .bl k ∧ Q k H) E := by
  unfold asB at h
  refine (Pst.of_bind h).mono (fun u S h1 w1 v e st s1 rv => ?_) fun _ _ q => q
  cases rv with
  | bl b => exact ⟨b, rfl, h1 w1 e st s1⟩
  | _ => exact h1.elim
theorem st_cmp {a b : Expr} {fa fb : FE} {op : CmpOp} {g : U → U → Sto → R U} {pos : Pos} (ho : OpSim X (compareOp op) g) (hn : ∀ x y S, noX (g x y S)) (ha : SimE X Wx a fa) (hb : SimE X Wx b fb) (hm : behindInMarks op b = false) : SimT X Wx (.Compare a [op] [b] pos) (fun d S => asB (f2 g fa fb d S)) := by
  obtain ⟨r, ho, hg⟩ := ho
  obtain ⟨ta, pa, ha⟩ := ha.out
  obtain ⟨tb, pb, hb⟩ := hb.out
  exact SimT.mk (pt_cmpR ho pa pb hm) (fun w d σ Q s e h => two (a := a) (b := b) ha hb hg hn w d σ _ s e (asB_post h))
def fCh (g g' : U → U → Sto → R U) (fa fb fc : FE) : FE := fun d S => (fa d S).bind fun x S1 => (fb d S1).bind fun y S2 => (g x y S2).bind fun z S3 => match z with
  | .bl true => (fc d S3).bind fun t S4 => g' y t S4
  | .bl false => .ok (.bl false) S3
  | _ => .bad
theorem chain {a b c : Expr} {ta tb tc : TE} {fa fb fc : FE}
    (ha : ∀ (w : Wd) (d : En) (σ : L2.St) (Q : VK), SR X.K w → ER X.K w d σ → Pst (fa d w.S) (OkE X w Q) (XPost X Wx σ w) → ta σ w.H Q)
    (hb : ∀ (w : Wd) (d : En) (σ : L2.St) (Q : VK), SR X.K w → ER X.K w d σ → Pst (fb d w.S) (OkE X w Q) (XPost X Wx σ w) → tb σ w.H Q)
    (hc : ∀ (w : Wd) (d : En) (σ : L2.St) (Q : VK), SR X.K w → ER X.K w d σ → Pst (fc d w.S) (OkE X w Q) (XPost X Wx σ w) → tc σ w.H Q)
    {g g' : U → U → Sto → R U} {r r' : R2} (hg : ∀ (w : Wd) (x y : U) (v v' : V) (Q : VK), SR X.K w → VR X.K w x v → VR X.K w y v' → Pst (g x y w.S) (OkE X w Q) (fun _ _ => False) → r v v' w.H Q) (hn : ∀ x y S, noX (g x y S))
    (hg' : ∀ (w : Wd) (x y : U) (v v' : V) (Q : VK), SR X.K w → VR X.K w x v → VR X.K w y v' → Pst (g' x y w.S) (OkE X w Q) (fun _ _ => False) → r' v v' w.H Q) (hn' : ∀ x y S, noX (g' x y S))
    (w : Wd) (d : En) (σ : L2.St) (Q : VK) (s : SR X.K w) (e : ER X.K w d σ) (h : Pst (fCh g g' fa fb fc d w.S) (OkE X w Q) (XPost X Wx σ w)) : tChain r r' ta tb tc σ w.H Q := by
  refine ha w d σ _ s e ((Pst.of_bind h).mono (fun x S1 h1 w1 v1 eS st s1 r1 => ?_) fun _ _ q => q)
  subst eS
  have e1 := e.ext st.x s
  refine hb w1 d σ _ s1 e1 ((Pst.of_bind h1).mono (fun y S2 h2 w2 v2 eS2 st2 s2 r2 => ?_) fun _ _ q => q.up st)
  subst eS2
  have st02 := st.trans st2
  have e2 := e1.ext st2.x s1
  refine hg w2 x y v1 v2 _ s2 (r1.ext st2.x s1) r2 ((pst_noX (Pst.of_bind h2) (hn x y w2.S)).mono (fun z S3 h3 w3 v3 eS3 st3 s3 r3 => ?_) fun _ _ q => q)
  subst eS3
  have st03 := st02.trans st3
  have e3 := e2.ext st3.x s2
  cases r3 with
  | bl k =>
    refine ⟨k, rfl, ?_⟩
    cases k with
    | false => exact OkE.here (h3.up st03) s3 (.bl false)
    | true =>
      show tc σ w3.H fun w' H4 => r' v2 w' H4 Q
      have h3 : Pst ((fc d w3.S).bind fun t S4 => g' y t S4) (OkE X w Q) (XPost X Wx σ w) := h3
      refine hc w3 d σ _ s3 e3 ((Pst.of_bind h3).mono (fun t S4 h4 w4 v4 eS4 st4 s4 r4 => ?_) fun _ _ q => q.up st03)
      subst eS4
      exact hg' w4 y t v2 v4 Q s4 ((r2.ext st3.x s2).ext st4.x s3) r4 ((pst_noX h4 (hn' y t w4.S)).mono (fun _ _ q => q.up (st03.trans st4)) fun _ _ q => q)
  | _ => exact h3.elim
theorem se_chain {a b c : Expr} {fa fb fc : FE} {op op' : CmpOp} {g g' : U → U → Sto → R U} {pos : Pos} (ho : OpSim X (compareOp op) g) (hn : ∀ x y S, noX (g x y S)) (ho' : OpSim X (compareOp op') g') (hn' : ∀ x y S, noX (g' x y S))
    (ha : SimE X Wx a fa) (hb : SimE X Wx b fb) (hc : SimE X Wx c fc) (hm : lastMarks [op, op'] [b, c] = false := by with_unfolding_all rfl) : SimE X Wx (.Compare a [op, op'] [b, c] pos) (fCh g g' fa fb fc) := by
  obtain ⟨r, ho, hg⟩ := ho
  obtain ⟨r', ho', hg'⟩ := ho'
  obtain ⟨ta, pa, ha⟩ := ha.out
  obtain ⟨tb, pb, hb⟩ := hb.out
  obtain ⟨tc, pc, hc⟩ := hc.out
  exact SimE.mk (pe_chain ho ho' pa pb pc hm) (fun w d σ Q s e h => chain (a := a) (b := b) (c := c) ha hb hc hg hn hg' hn' w d σ Q s e h)
theorem st_chain {a b c : Expr} {fa fb fc : FE} {op op' : CmpOp} {g g' : U → U → Sto → R U} {pos : Pos} (ho : OpSim X (compareOp op) g) (hn : ∀ x y S, noX (g x y S)) (ho' : OpSim X (compareOp op') g') (hn' : ∀ x y S, noX (g' x y S))
    (ha : SimE X Wx a fa) (hb : SimE X Wx b fb) (hc : SimE X Wx c fc) (hm : lastMarks [op, op'] [b, c] = false := by with_unfolding_all rfl) : SimT X Wx (.Compare a [op, op'] [b, c] pos) (fun d S => asB (fCh g g' fa fb fc d S)) := by
  obtain ⟨r, ho, hg⟩ := ho
  obtain ⟨r', ho', hg'⟩ := ho'
  obtain ⟨ta, pa, ha⟩ := ha.out
  obtain ⟨tb, pb, hb⟩ := hb.out
  obtain ⟨tc, pc, hc⟩ := hc.out
  exact SimT.mk (pt_chain ho ho' pa pb pc hm) (fun w d σ Q s e h => chain (a := a) (b := b) (c := c) ha hb hc hg hn hg' hn' w d σ _ s e (asB_post h))

/-! ### one value -/
def f1 (g : U → Sto → R U) (fa : FE) : FE := fun d S => (fa d S).bind g
def UnSim (X : Cx) (F : Value → Sem Value) (g : U → Sto → R U) : Prop := ∃ r, UnR X F r ∧ (∀ x S, noX (g x S)) ∧ ∀ (w : Wd) (x : U) (v : V) (Q : VK), SR X.K w → VR X.K w x v → Pst (g x w.S) (OkE X w Q) (fun _ _ => False) → r v w.H Q
theorem se_un {a : Expr} {fa : FE} {op : UnaryOp} {g : U → Sto → R U} {pos : Pos} (ho : UnSim X (unaryOp op) g) (ha : SimE X Wx a fa) : SimE X Wx (.UnaryOp op a pos) (f1 g fa) := by
  obtain ⟨r, ho, hn, hg⟩ := ho
  obtain ⟨ta, pa, ha⟩ := ha.out
  refine SimE.mk (pe_un ho pa) (fun w d σ Q s e h => ?_)
  refine ha w d σ _ s e ((Pst.of_bind h).mono (fun x S1 h1 w1 v1 eS st s1 r1 => ?_) fun _ _ q => q)
  subst eS
  exact hg w1 x v1 Q s1 r1 ((pst_noX h1 (hn x w1.S)).mono (fun _ _ q => q.up st) fun _ _ q => q)

/-! ### truth -/
def lenO : Ob → Option Nat
  | .lst us => some us.length
  | .dic ks _ => some ks.length
  | .dead => none
/-- a value's truth -/
def truU (u : U) (S : Sto) : Option Bool := match u with
  | .non => some false
  | .bl b => some b
  | .int i => some (i != 0)
  | .str x => if x.length ≤ sizeLine then some ((x.length : Int) != 0) else none
  | .tup us => some (!us.isEmpty)
  | .lst us => some (!us.isEmpty)
  | .frz us => some (!us.isEmpty)
  | .dic ks _ => some (!ks.isEmpty)
  | .loc n => match S[n]? with
    | some (.lst us) => some (!us.isEmpty)
    | some (.dic ks _) => some (!ks.isEmpty)
    | _ => none
  | .ty _ => none
theorem vrs_empty {K : PySem.W.Frag} {w : Wd} {us : List U} {xs : List V} (r : VRs K w us xs) : us.isEmpty = xs.isEmpty := by
  cases r <;> rfl
theorem zip_empty {ks : List Key} {us : List U} {xs : List V} {K : PySem.W.Frag} {w : Wd} (l : ks.length = us.length) (r : VRs K w us xs) : (ks.zip xs).isEmpty = ks.isEmpty := by
  have h := r.length
  cases ks with
  | nil => rfl
  | cons k ks =>
    cases xs with
    | nil => rw [List.length_cons] at l; rw [List.length_nil] at h; omega
    | cons x xs => rfl
theorem truU_ok {w : Wd} {u : U} {v : V} {b : Bool} (s : SR X.K w) (r : VR X.K w u v) (h : truU u w.S = some b) : TruV X.K v w.H b := by
  cases r with
  | non => cases h; rfl
  | bl c => cases h; rfl
  | int i => cases h; rfl
  | str x =>
    unfold truU at h
    dsimp only at h
    split at h
    · rename_i hl; cases h; exact ⟨hl, rfl⟩
    · cases h
  | tup hq rs => cases h; exact .inr (.inl ⟨_, hq.sq, by rw [vrs_empty rs]⟩)
  | lst hq n rs => cases h; exact .inl ⟨_, SqL.of hq, by rw [vrs_empty rs]⟩
  | frz hq rs => cases h; exact .inl ⟨_, hq.sq, by rw [vrs_empty rs]⟩
  | dic hq n l rs => cases h; exact .inr (.inr ⟨_, hq, by rw [zip_empty l rs]⟩)
  | @loc n a hm =>
    unfold truU at h
    dsimp only at h
    split at h
    · rename_i us hS
      cases h
      obtain ⟨xs, q, rs⟩ := s.obj n a _ hm hS
      exact .inl ⟨xs, SqL.of q, by rw [vrs_empty rs]⟩
    · rename_i ks us hS
      cases h
      obtain ⟨xs, q, l, rs⟩ := s.obj n a _ hm hS
      exact .inr (.inr ⟨_, q, by rw [zip_empty l rs]⟩)
    · cases h
  | ty n => cases h
def oB (o : Option Bool) (S : Sto) : R Bool := match o with
  | some b => .ok b S
  | none => .bad
def fTru (fa : FE) : FT := fun d S => (fa d S).bind fun u S1 => oB (truU u S1) S1
theorem tru_post {w : Wd} {ta : TE} {fa : FE} (ha : ∀ (w : Wd) (d : En) (σ : L2.St) (Q : VK), SR X.K w → ER X.K w d σ → Pst (fa d w.S) (OkE X w Q) (XPost X Wx σ w) → ta σ w.H Q)
    {d : En} {σ : L2.St} {Q : Bool → Hp → Prop} (s : SR X.K w) (e : ER X.K w d σ) (h : Pst (fTru fa d w.S) (OkT X w Q) (XPost X Wx σ w)) : ta σ w.H fun x H1 => ∃ k, TruV X.K x H1 k ∧ Q k H1 := by
  refine ha w d σ _ s e ((Pst.of_bind h).mono (fun u S1 h1 w1 v1 eS st s1 r1 => ?_) fun _ _ q => q)
  subst eS
  unfold oB at h1
  split at h1
  · rename_i b hb
    exact ⟨b, truU_ok s1 r1 hb, h1 w1 rfl st s1⟩
  · exact h1.elim
/-- an expression of any kind as a test -/
theorem st_val {e : Expr} {f : FE} (h : SimE X Wx e f) (he : ∀ whole, isTrue e X.env whole = (do let v ← whole; standAt e.pos; holding [v] (truthy v)) := by intro _; rfl) : SimT X Wx e (fTru f) := by
  obtain ⟨t, p, h⟩ := h.out
  exact SimT.mk (pt_truth p he) (fun w d σ Q s e h1 => tru_post h s e h1)

/-! ### and, or, not -/
def fAnd (fa fb : FT) : FT := fun d S => (fa d S).bind fun b S1 => if b then fb d S1 else .ok false S1
def fOr (fa fb : FT) : FT := fun d S => (fa d S).bind fun b S1 => if b then .ok true S1 else fb d S1
def fNot (fa : FT) : FT := fun d S => (fa d S).bind fun b S1 => .ok (!b) S1
variable {a b : Expr} {pos : Pos} {rest : List Expr}
theorem SimW.t {e : Expr} {f : FT} (h : SimW X Wx e f) : SimT X Wx e f := let ⟨t, p, h⟩ := h.out; SimT.mk p.pt h
theorem sw_and1 {f : FT} (h : SimT X Wx a f) : SimW X Wx (.BoolOp .And [a] pos) f := let ⟨t, p, h⟩ := h.out; SimW.mk (pw_and1 p) h
theorem sw_or1 {f : FT} (h : SimT X Wx a f) : SimW X Wx (.BoolOp .Or [a] pos) f := let ⟨t, p, h⟩ := h.out; SimW.mk (pw_or1 p) h
theorem sw_and {fa fb : FT} (ha : SimT X Wx a fa) (hb : SimW X Wx (.BoolOp .And (b :: rest) pos) fb) : SimW X Wx (.BoolOp .And (a :: b :: rest) pos) (fAnd fa fb) := by
  obtain ⟨ta, pa, ha⟩ := ha.out
  obtain ⟨tb, pb, hb⟩ := hb.out
  refine SimW.mk (pw_and pa pb) (fun w d σ Q s e h => ?_)
  refine ha w d σ _ s e ((Pst.of_bind h).mono (fun c S1 h1 w1 eS st s1 => ?_) fun _ _ q => q)
  subst eS
  cases c with
  | true => exact hb w1 d σ Q s1 (e.ext st.x s) (h1.mono (fun _ _ q => q.up st) fun _ _ q => q.up st)
  | false => exact h1 w1 rfl st s1
theorem sw_or {fa fb : FT} (ha : SimT X Wx a fa) (hb : SimW X Wx (.BoolOp .Or (b :: rest) pos) fb) : SimW X Wx (.BoolOp .Or (a :: b :: rest) pos) (fOr fa fb) := by
  obtain ⟨ta, pa, ha⟩ := ha.out
  obtain ⟨tb, pb, hb⟩ := hb.out
  refine SimW.mk (pw_or pa pb) (fun w d σ Q s e h => ?_)
  refine ha w d σ _ s e ((Pst.of_bind h).mono (fun c S1 h1 w1 eS st s1 => ?_) fun _ _ q => q)
  subst eS
  cases c with
  | false => exact hb w1 d σ Q s1 (e.ext st.x s) (h1.mono (fun _ _ q => q.up st) fun _ _ q => q.up st)
  | true => exact h1 w1 rfl st s1
theorem st_not {f : FT} (h : SimT X Wx a f) : SimT X Wx (.UnaryOp .Not a pos) (fNot f) := by
  obtain ⟨t, p, h⟩ := h.out
  refine SimT.mk (pt_not p) (fun w d σ Q s e h0 => ?_)
  exact h w d σ _ s e ((Pst.of_bind h0).mono (fun c S1 h1 w1 eS st s1 => h1 w1 eS st s1) fun _ _ q => q)
/-- as values -/
def fAndV (fa fb : FE) : FE := fun d S => (fa d S).bind fun u S1 => match truU u S1 with
  | some true => fb d S1
  | some false => .ok u S1
  | none => .bad
def fOrV (fa fb : FE) : FE := fun d S => (fa d S).bind fun u S1 => match truU u S1 with
  | some true => .ok u S1
  | some false => fb d S1
  | none => .bad
def fNotV (fa : FE) : FE := fun d S => (fa d S).bind fun u S1 => match truU u S1 with
  | some b => .ok (.bl (!b)) S1
  | none => .bad
theorem se_one {op} {f : FE} (h : SimE X Wx a f) : SimE X Wx (.BoolOp op [a] pos) f := let ⟨t, p, h⟩ := h.out; SimE.mk (pe_one p) h
theorem se_and {fa fb : FE} (ha : SimE X Wx a fa) (hb : SimE X Wx (.BoolOp .And (b :: rest) pos) fb) : SimE X Wx (.BoolOp .And (a :: b :: rest) pos) (fAndV fa fb) := by
  obtain ⟨ta, pa, ha⟩ := ha.out
  obtain ⟨tb, pb, hb⟩ := hb.out
  refine SimE.mk (pe_andT pa pb) (fun w d σ Q s e h => ?_)
  refine ha w d σ _ s e ((Pst.of_bind h).mono (fun u S1 h1 w1 v1 eS st s1 r1 => ?_) fun _ _ q => q)
  subst eS
  split at h1
  · rename_i hb'
    refine ⟨true, truU_ok s1 r1 hb', ?_⟩
    exact hb w1 d σ Q s1 (e.ext st.x s) (h1.mono (fun _ _ q => q.up st) fun _ _ q => q.up st)
  · rename_i hb'
    exact ⟨false, truU_ok s1 r1 hb', h1 w1 v1 rfl st s1 r1⟩
  · exact h1.elim
theorem se_or {fa fb : FE} (ha : SimE X Wx a fa) (hb : SimE X Wx (.BoolOp .Or (b :: rest) pos) fb) : SimE X Wx (.BoolOp .Or (a :: b :: rest) pos) (fOrV fa fb) := by
  obtain ⟨ta, pa, ha⟩ := ha.out
  obtain ⟨tb, pb, hb⟩ := hb.out
  refine SimE.mk (pe_orT pa pb) (fun w d σ Q s e h => ?_)
  refine ha w d σ _ s e ((Pst.of_bind h).mono (fun u S1 h1 w1 v1 eS st s1 r1 => ?_) fun _ _ q => q)
  subst eS
  split at h1
  · rename_i hb'
    exact ⟨true, truU_ok s1 r1 hb', h1 w1 v1 rfl st s1 r1⟩
  · rename_i hb'
    refine ⟨false, truU_ok s1 r1 hb', ?_⟩
    exact hb w1 d σ Q s1 (e.ext st.x s) (h1.mono (fun _ _ q => q.up st) fun _ _ q => q.up st)
  · exact h1.elim
theorem se_not {fa : FE} (ha : SimE X Wx a fa) : SimE X Wx (.UnaryOp .Not a pos) (fNotV fa) := by
  obtain ⟨ta, pa, ha⟩ := ha.out
  refine SimE.mk (pe_notT pa) (fun w d σ Q s e h => ?_)
  refine ha w d σ _ s e ((Pst.of_bind h).mono (fun u S1 h1 w1 v1 eS st s1 r1 => ?_) fun _ _ q => q)
  subst eS
  split at h1
  · rename_i c hb'
    exact ⟨c, truU_ok s1 r1 hb', h1 w1 _ rfl st s1 (.bl _)⟩
  · exact h1.elim
def fIf {α : Type} (c : FT) (fa fb : En → Sto → R α) : En → Sto → R α := fun d S => (c d S).bind fun b S1 => if b then fa d S1 else fb d S1
theorem se_if {c : Expr} {fc : FT} {fa fb : FE} (hc : SimT X Wx c fc) (ha : SimE X Wx a fa) (hb : SimE X Wx b fb) : SimE X Wx (.IfExp c a b pos) (fIf fc fa fb) := by
  obtain ⟨tc, pc, hc⟩ := hc.out
  obtain ⟨ta, pa, ha⟩ := ha.out
  obtain ⟨tb, pb, hb⟩ := hb.out
  refine SimE.mk (pe_ifExp pc pa pb) (fun w d σ Q s e h => ?_)
  refine hc w d σ _ s e ((Pst.of_bind h).mono (fun k S1 h1 w1 eS st s1 => ?_) fun _ _ q => q)
  subst eS
  cases k with
  | true => exact ha w1 d σ Q s1 (e.ext st.x s) (h1.mono (fun _ _ q => q.up st) fun _ _ q => q.up st)
  | false => exact hb w1 d σ Q s1 (e.ext st.x s) (h1.mono (fun _ _ q => q.up st) fun _ _ q => q.up st)

/-! ### arguments, tuples, lists -/
def aNil : FA := fun _ S => .ok [] S
def aCons (f : FE) (g : FA) : FA := fun d S => (f d S).bind fun u S1 => (g d S1).bind fun us S2 => .ok (u :: us) S2
theorem sa_nil : SimA X Wx [] aNil := SimA.mk (pa_nil) (fun w d σ Q s e h => h w [] rfl (Stp.refl w) s .nil)
theorem sa_cons {e : Expr} {es : List Expr} {f : FE} {g : FA} (h1 : SimE X Wx e f) (h2 : SimA X Wx es g) (hs : starEach (e :: es) X.env = (false, eval e X.env) :: starEach es X.env := by rfl) : SimA X Wx (e :: es) (aCons f g) := by
  obtain ⟨t, p, h1⟩ := h1.out
  obtain ⟨u, q, h2⟩ := h2.out
  refine SimA.mk (pa_cons p q hs) (fun w d σ Q s e h => ?_)
  refine h1 w d σ _ s e ((Pst.of_bind h).mono (fun x S1 k1 w1 v1 eS st s1 r1 => ?_) fun _ _ q => q)
  subst eS
  refine h2 w1 d σ _ s1 (e.ext st.x s) ((Pst.of_bind k1).mono (fun us S2 k2 w2 vs eS2 st2 s2 r2 => ?_) fun _ _ q => q.up st)
  subst eS2
  exact k2 w2 (v1 :: vs) rfl (st.trans st2) s2 (.cons (r1.ext st2.x s1) r2)
def fTup (g : FA) : FE := fun d S => (g d S).bind fun us S1 => if us.length ≤ sizeLine then .ok (.tup us) S1 else .bad
theorem se_tup {es : List Expr} {g : FA} {k} (h : SimA X Wx es g) : SimE X Wx (.Tuple es k pos) (fTup g) := by
  obtain ⟨t, p, h⟩ := h.out
  refine SimE.mk (pe_tup p) (fun w d σ Q s e h0 => ?_)
  refine h w d σ _ s e ((Pst.of_bind h0).mono (fun us S1 h1 w1 vs eS st s1 rs => ?_) fun _ _ q => q)
  subst eS
  split at h1
  · rename_i hl
    refine ⟨by rw [← rs.length]; exact hl, fun p hp => ?_⟩
    have st1 := Stp.new s1 (o := .tup vs) hp
    exact h1 (w1.new p (.tup vs)) (.ref p) rfl (st.trans st1) (s1.new hp) (.tup (TqT.of upd_same) (rs.ext st1.x s1))
  · exact h1.elim
def aLst (g : FA) : FA := fun d S => (g d S).bind fun us S1 => if us.length ≤ sizeLine then .ok us S1 else .bad
theorem sl_lst {es : List Expr} {g : FA} (h : SimA X Wx es g) : SimL X Wx (.List es pos) (aLst g) := by
  obtain ⟨t, p, h⟩ := h.out
  refine SimL.mk (pe_lst p) (fun w d σ Q s e h0 => ?_)
  refine h w d σ _ s e ((Pst.of_bind h0).mono (fun us S1 h1 w1 vs eS st s1 rs => ?_) fun _ _ q => q)
  subst eS
  split at h1
  · rename_i hl
    exact ⟨by rw [← rs.length]; exact hl, fun p hp => h1 w1 p vs rfl st s1 rs hp⟩
  · exact h1.elim
/-- a new list, read alone from now on; one of the store -/
def fVal (g : FA) : FE := fun d S => (g d S).bind fun us S1 => .ok (.lst us) S1
def fLoc (g : FA) : FE := fun d S => (g d S).bind fun us S1 => .ok (.loc S1.length) (S1 ++ [.lst us])
theorem SimL.val {e : Expr} {g : FA} (h : SimL X Wx e g) : SimE X Wx e (fVal g) := by
  obtain ⟨t, p, h⟩ := h.out
  refine SimE.mk (p) (fun w d σ Q s e h0 => ?_)
  refine h w d σ _ s e ((Pst.of_bind h0).mono (fun us S1 h1 w1 p xs eS st s1 rs hp => ?_) fun _ _ q => q)
  subst eS
  have st1 := Stp.new s1 (o := .lst xs) hp
  exact h1 (w1.new p (.lst xs)) (.ref p) rfl (st.trans st1) (s1.new hp) (.lst upd_same (fun q => s1.tracked q hp) (rs.ext st1.x s1))
theorem SimL.loc {e : Expr} {g : FA} (h : SimL X Wx e g) : SimE X Wx e (fLoc g) := by
  obtain ⟨t, p, h⟩ := h.out
  refine SimE.mk (p) (fun w d σ Q s e h0 => ?_)
  refine h w d σ _ s e ((Pst.of_bind h0).mono (fun us S1 h1 w1 p xs eS st s1 rs hp => ?_) fun _ _ q => q)
  subst eS
  have st1 := Stp.push s1 (o := .lst xs) (b := .lst us) hp
  refine h1 (w1.push p (.lst xs) (.lst us)) (.ref p) rfl (st.trans st1) (s1.push hp ⟨xs, upd_same, rs.ext st1.x s1⟩) (.loc ?_)
  show (w1.m ++ [p])[w1.S.length]? = some p
  rw [← s1.len]
  simp
/-- left to be read alone -/
def fIce (f : FE) : FE := fun d S => (f d S).bind fun u S1 => match u with
  | .loc n => match S1[n]? with
    | some (.lst us) => .ok (.lst us) (S1.set n .dead)
    | some (.dic ks us) => .ok (.dic ks us) (S1.set n .dead)
    | _ => .bad
  | _ => .bad
theorem se_ice {e : Expr} {f : FE} (h : SimE X Wx e f) : SimE X Wx e (fIce f) := by
  obtain ⟨t, p, h⟩ := h.out
  refine SimE.mk (p) (fun w d σ Q s e h0 => ?_)
  refine h w d σ _ s e ((Pst.of_bind h0).mono (fun u S1 h1 w1 v1 eS st s1 r1 => ?_) fun _ _ q => q)
  subst eS
  cases r1 with
  | @loc n a hm =>
    dsimp only at h1
    split at h1
    · rename_i us hS
      obtain ⟨xs, q, rs⟩ := s1.obj n a _ hm hS
      exact h1 (w1.ice n) (.ref a) rfl (st.trans (Stp.ice w1 n)) (s1.ice n) (.lst q (live_ice s1 hm hS (by intro z; cases z)) (rs.ext (Ext.ice w1 n) s1))
    · rename_i ks us hS
      obtain ⟨xs, q, l, rs⟩ := s1.obj n a _ hm hS
      exact h1 (w1.ice n) (.ref a) rfl (st.trans (Stp.ice w1 n)) (s1.ice n) (.dic q (live_ice s1 hm hS (by intro z; cases z)) l (rs.ext (Ext.ice w1 n) s1))
    · exact h1.elim
  | _ => exact h1.elim
end
end DL

set_option Elab.async false
set_option linter.all false
set_option maxRecDepth 100000
namespace DL
open PySem PySem.Spec L2

/-! ### reading lists and dicts -/
def listM (u : U) (S : Sto) : Option (List U) := match u with
  | .lst us => some us
  | .loc n => match S[n]? with
    | some (.lst us) => some us
    | _ => none
  | _ => none
def listOf (u : U) (S : Sto) : Option (List U) := match u with
  | .frz us => some us
  | u => listM u S
def dictOf (u : U) (S : Sto) : Option (List Key × List U) := match u with
  | .dic ks us => some (ks, us)
  | .loc n => match S[n]? with
    | some (.dic ks us) => some (ks, us)
    | _ => none
  | _ => none
def keyU : U → Option Key
  | .int i => some (.inl i)
  | .str x => some (.inr x)
  | _ => none
def valU : List Key → List U → Key → Option U
  | k :: ks, u :: us, j => if k = j then some u else valU ks us j
  | _, _, _ => none
section
variable {K : PySem.W.Frag} {w : Wd}
theorem listM_ok {u : U} {v : V} {us : List U} (s : SR K w) (r : VR K w u v) (h : listM u w.S = some us) : ∃ a xs, v = .ref a ∧ w.H a = some (.lst xs) ∧ VRs K w us xs := by
  cases r with
  | lst hq n rs => cases h; exact ⟨_, _, rfl, hq, rs⟩
  | @loc n a hm =>
    unfold listM at h
    dsimp only at h
    split at h
    · rename_i us' hS
      cases h
      obtain ⟨xs, q, rs⟩ := s.obj n a _ hm hS
      exact ⟨a, xs, rfl, q, rs⟩
    · cases h
  | _ => cases h
theorem listOf_ok {u : U} {v : V} {us : List U} (s : SR K w) (r : VR K w u v) (h : listOf u w.S = some us) : ∃ a xs, v = .ref a ∧ SqL K w.H a xs ∧ VRs K w us xs := by
  cases r with
  | frz hq rs => cases h; exact ⟨_, _, rfl, hq.sq, rs⟩
  | lst hq n rs => cases h; exact ⟨_, _, rfl, SqL.of hq, rs⟩
  | loc hm =>
    obtain ⟨a, xs, e, q, rs⟩ := listM_ok s (.loc hm) h
    exact ⟨a, xs, e, SqL.of q, rs⟩
  | _ => cases h
theorem dictOf_ok {u : U} {v : V} {ks : List Key} {us : List U} (s : SR K w) (r : VR K w u v) (h : dictOf u w.S = some (ks, us)) : ∃ a xs, v = .ref a ∧ w.H a = some (.dK (ks.zip xs)) ∧ ks.length = us.length ∧ VRs K w us xs := by
  cases r with
  | dic hq n l rs => cases h; exact ⟨_, _, rfl, hq, l, rs⟩
  | @loc n a hm =>
    unfold dictOf at h
    dsimp only at h
    split at h
    · rename_i ks' us' hS
      cases h
      obtain ⟨xs, q, l, rs⟩ := s.obj n a _ hm hS
      exact ⟨a, xs, rfl, q, l, rs⟩
    · cases h
  | _ => cases h
theorem keyU_ok {u : U} {v : V} {k : Key} (r : VR K w u v) (h : keyU u = some k) : v = kV k := by
  cases r with
  | int i => cases h; rfl
  | str x => cases h; rfl
  | _ => cases h
theorem valU_ok : ∀ {ks : List Key} {us : List U} {xs : List V} (k : Key), VRs K w us xs → (valU ks us k = none → valV (ks.zip xs) k = none) ∧ ∀ u, valU ks us k = some u → ∃ v, valV (ks.zip xs) k = some v ∧ VR K w u v
  | [], us, xs, k, r => ⟨fun _ => by rw [List.zip_nil_left]; exact valV_nil, fun u h => by unfold valU at h; cases h⟩
  | k' :: ks, _, _, k, .nil => ⟨fun _ => by rw [List.zip_nil_right]; exact valV_nil, fun u h => by unfold valU at h; cases h⟩
  | k' :: ks, u :: us, x :: xs, k, .cons r rs => by
    rw [List.zip_cons_cons]
    by_cases e : k' = k
    · refine ⟨fun h => ?_, fun y h => ?_⟩
      · unfold valU at h; rw [if_pos e] at h; cases h
      · unfold valU at h; rw [if_pos e] at h; cases h; exact ⟨x, valV_pos e, r⟩
    · rw [valV_neg e]
      unfold valU
      rw [if_neg e]
      exact valU_ok k rs
theorem valU_rel {ks : List Key} {us : List U} {xs : List V} (k : Key) (r : VRs K w us xs) : (valU ks us k).isSome = (valV (ks.zip xs) k).isSome := by
  obtain ⟨h1, h2⟩ := valU_ok (ks := ks) k r
  cases h : valU ks us k with
  | none => rw [h1 h]; rfl
  | some u => obtain ⟨v, e, _⟩ := h2 u h; rw [e]; rfl
end

/-! ### data, for equality -/
mutual
def toD : U → Option PyData
  | .non => some .none
  | .bl b => some (.bool b)
  | .int i => some (.int i)
  | .str x => some (.str x)
  | .tup us => (toDs us).map .tuple
  | .lst us => (toDs us).map .list
  | .frz us => (toDs us).map .list
  | .dic _ _ => none
  | .loc _ => none
  | .ty _ => none
def toDs : List U → Option (List PyData)
  | [] => some []
  | u :: us => match toD u, toDs us with
    | some d, some ds => some (d :: ds)
    | _, _ => none
end
section
variable {K : PySem.W.Frag} {w : Wd}
mutual
theorem toD_ok : ∀ {u : U} {v : V} {d : PyData}, VR K w u v → toD u = some d → Dp K w.H v d
  | _, _, _, .non, h => by unfold toD at h; cases h; exact .non
  | _, _, _, .bl b, h => by unfold toD at h; cases h; exact .bl b
  | _, _, _, .int i, h => by unfold toD at h; cases h; exact .int i
  | _, _, _, .str x, h => by unfold toD at h; cases h; exact .str x
  | _, _, _, .tup (us := us) hq rs, h => by
    unfold toD at h
    cases e : toDs us with
    | none => rw [e] at h; cases h
    | some ds => rw [e] at h; cases h; exact .tup hq.sq (toDs_ok rs e)
  | _, _, _, .lst (us := us) hq _ rs, h => by
    unfold toD at h
    cases e : toDs us with
    | none => rw [e] at h; cases h
    | some ds => rw [e] at h; cases h; exact .lst (SqL.of hq) (toDs_ok rs e)
  | _, _, _, .frz (us := us) hq rs, h => by
    unfold toD at h
    cases e : toDs us with
    | none => rw [e] at h; cases h
    | some ds => rw [e] at h; cases h; exact .lst hq.sq (toDs_ok rs e)
  | _, _, _, .dic _ _ _ _, h => by unfold toD at h; cases h
  | _, _, _, .loc _, h => by unfold toD at h; cases h
  | _, _, _, .ty _, h => by unfold toD at h; cases h
theorem toDs_ok : ∀ {us : List U} {vs : List V} {ds : List PyData}, VRs K w us vs → toDs us = some ds → DpAll K w.H vs ds
  | _, _, _, .nil, h => by unfold toDs at h; cases h; exact .nil
  | _, _, _, .cons (u := u) (us := us) r rs, h => by
    unfold toDs at h
    split at h
    · rename_i d ds e1 e2
      cases h
      exact .cons (toD_ok r e1) (toDs_ok rs e2)
    · cases h
end
/-- also a list of the store -/
def toDS (u : U) (S : Sto) : Option PyData := match u with
  | .loc n => match S[n]? with
    | some (.lst us) => (toDs us).map .list
    | _ => none
  | u => toD u
theorem toDS_ok {u : U} {v : V} {d : PyData} (s : SR K w) (r : VR K w u v) (h : toDS u w.S = some d) : Dp K w.H v d := by
  by_cases hl : ∃ n, u = .loc n
  · obtain ⟨n, rfl⟩ := hl
    cases r with
    | @loc _ a hm =>
      unfold toDS at h
      dsimp only at h
      split at h
      · rename_i us hS
        obtain ⟨xs, q, rs⟩ := s.obj n a _ hm hS
        cases e : toDs us with
        | none => rw [e] at h; cases h
        | some ds => rw [e] at h; cases h; exact .lst (SqL.of q) (toDs_ok rs e)
      · cases h
  · refine toD_ok r ?_
    unfold toDS at h
    split at h
    · exact absurd ⟨_, rfl⟩ hl
    · exact h
end

/-! ### operators -/
abbrev bI (b : Bool) : Int := if b then 1 else 0
def okI (i : Int) (S : Sto) : R U := .ok (.int i) S
def okB (b : Bool) (S : Sto) : R U := .ok (.bl b) S
def guard {α : Type} (c : Bool) (r : R α) : R α := if c then r else .bad
def addU (x y : U) (S : Sto) : R U := match x, y with
  | .int i, .int j => .ok (.int (i + j)) S
  | .int i, .bl b => .ok (.int (i + bI b)) S
  | .str a, .str b => guard (decide (a.length + b.length ≤ sizeLine)) (.ok (.str (a ++ b)) S)
  | .tup a, .tup b => guard (decide (a.length + b.length ≤ sizeLine)) (.ok (.tup (a ++ b)) S)
  | x, y => match listM x S, listM y S with
    | some a, some b => guard (decide (a.length + b.length ≤ sizeLine)) (.ok (.lst (a ++ b)) S)
    | _, _ => .bad
def subU (x y : U) (S : Sto) : R U := match x, y with
  | .int i, .int j => .ok (.int (i - j)) S
  | _, _ => .bad
def mulOk (i j : Int) : Bool := decide ((Builtin.Int.intBits i : Int) + (Builtin.Int.intBits j : Int) ≤ 134217728)
def mulU (x y : U) (S : Sto) : R U := match x, y with
  | .int i, .int j => guard (mulOk i j) (.ok (.int (i * j)) S)
  | x, .int k => match listM x S with
    | some a => guard (decide (-(2 ^ 63) ≤ k) && decide (k < 2 ^ 63) && decide (a.length * k.toNat ≤ sizeLine)) (.ok (.lst (List.replicate k.toNat a).flatten) S)
    | none => .bad
  | _, _ => .bad
def fdivU (x y : U) (S : Sto) : R U := match x, y with
  | .int i, .int j => guard (decide (0 < j) && decide (j.natAbs.log2 < 9000)) (.ok (.int (i / j)) S)
  | _, _ => .bad
def modU (x y : U) (S : Sto) : R U := match x, y with
  | .int i, .int j => guard (decide (0 < j)) (.ok (.int (i % j)) S)
  | _, _ => .bad
def powU (x y : U) (S : Sto) : R U := match x, y with
  | .int i, .int j => guard (decide (0 ≤ j) && decide (j ≤ 1000000) && decide (i.natAbs < 2 ^ 64)) (.ok (.int (i ^ j.toNat)) S)
  | _, _ => .bad
section
variable {X : Cx}
theorem guard_post {α : Type} {c : Bool} {r : R α} {P : α → Sto → Prop} {E : Exc → Sto → Prop} (h : Pst (guard c r) P E) : c = true ∧ Pst r P E := by
  unfold guard at h
  cases c with
  | true => exact ⟨rfl, h⟩
  | false => exact h.elim
theorem noX_guard {c : Bool} {r : R U} (h : noX r) : noX (guard c r) := by
  unfold guard; cases c with
  | true => exact h
  | false => trivial
theorem noX_add (x y : U) (S : Sto) : noX (addU x y S) := by
  unfold addU
  split <;> first | trivial | exact noX_guard trivial | (split <;> first | trivial | exact noX_guard trivial)
theorem noX_sub (x y : U) (S : Sto) : noX (subU x y S) := by
  unfold subU; split <;> trivial
theorem noX_mul (x y : U) (S : Sto) : noX (mulU x y S) := by
  unfold mulU
  split <;> first | trivial | exact noX_guard trivial | (split <;> first | trivial | exact noX_guard trivial)
theorem noX_fdiv (x y : U) (S : Sto) : noX (fdivU x y S) := by
  unfold fdivU; split <;> first | trivial | exact noX_guard trivial
theorem noX_mod (x y : U) (S : Sto) : noX (modU x y S) := by
  unfold modU; split <;> first | trivial | exact noX_guard trivial
theorem noX_pow (x y : U) (S : Sto) : noX (powU x y S) := by
  unfold powU; split <;> first | trivial | exact noX_guard trivial
theorem os_add : OpSim X (binaryOp .Add) addU := by
  refine ⟨_, op_add.or (op_add_ib.or (op_add_str.or (op_cat.or op_catA))), fun w x y v v' Q s rx ry h => ?_⟩
  have lists : ∀ {x y : U} {v v' : V}, VR X.K w x v → VR X.K w y v' → Pst (match listM x w.S, listM y w.S with
    | some a, some b => guard (decide (a.length + b.length ≤ sizeLine)) (.ok (.lst (a ++ b)) w.S)
    | _, _ => .bad) (OkE X w Q) (fun _ _ => False) → rCat v v' w.H Q := fun {x y v v'} rx ry h => by
    split at h
    · rename_i a b h1 h2
      obtain ⟨hl, h⟩ := guard_post h
      obtain ⟨p, xs, rfl, q, rs⟩ := listM_ok s rx h1
      obtain ⟨p', xs', rfl, q', rs'⟩ := listM_ok s ry h2
      refine ⟨p, p', xs, xs', rfl, rfl, q, q', by rw [← rs.length, ← rs'.length]; exact of_decide_eq_true hl, fun z hz => ?_⟩
      have st := Stp.new s (o := .lst (xs ++ xs')) hz
      exact h (w.new z _) (.ref z) rfl st (s.new hz) (.lst upd_same (fun q => s.tracked q hz) ((rs.append rs').ext st.x s))
    · exact h.elim
  unfold addU at h
  split at h
  · cases rx; cases ry; exact .inl ⟨_, _, rfl, rfl, OkE.here h s (.int _)⟩
  · cases rx; cases ry; exact .inr (.inl ⟨_, _, rfl, rfl, OkE.here h s (.int _)⟩)
  · obtain ⟨hl, h⟩ := guard_post h
    cases rx; cases ry; exact .inr (.inr (.inl ⟨_, _, rfl, rfl, of_decide_eq_true hl, OkE.here h s (.str _)⟩))
  · rename_i a b
    obtain ⟨hl, h⟩ := guard_post h
    cases rx with
    | @tup p xs _ hq rs =>
      cases ry with
      | @tup p' xs' _ hq' rs' =>
        refine .inr (.inr (.inr (.inr ⟨p, p', xs, xs', rfl, rfl, hq.sq, hq'.sq, by rw [← rs.length, ← rs'.length]; exact of_decide_eq_true hl, fun e => ?_, fun _ e => ?_, fun _ _ z hz => ?_⟩)))
        · subst e
          cases rs
          exact OkE.here h s (.tup hq' rs')
        · subst e
          cases rs'
          rw [List.append_nil] at h
          exact OkE.here h s (.tup hq rs)
        · have st := Stp.new s (o := .tup (xs ++ xs')) hz
          exact h (w.new z _) (.ref z) rfl st (s.new hz) (.tup (TqT.of upd_same) ((rs.append rs').ext st.x s))
  · exact .inr (.inr (.inr (.inl (lists rx ry h))))
theorem os_sub : OpSim X (binaryOp .Sub) subU := by
  refine ⟨_, op_sub, fun w x y v v' Q s rx ry h => ?_⟩
  unfold subU at h
  split at h
  · cases rx; cases ry; exact ⟨_, _, rfl, rfl, OkE.here h s (.int _)⟩
  · exact h.elim
theorem os_mul : OpSim X (binaryOp .Mult) mulU := by
  refine ⟨_, op_mulX.or op_rep, fun w x y v v' Q s rx ry h => ?_⟩
  unfold mulU at h
  split at h
  · obtain ⟨hl, h⟩ := guard_post h
    cases rx; cases ry; exact .inl ⟨_, _, rfl, rfl, show (_ : Int) ≤ _ from of_decide_eq_true hl, OkE.here h s (.int _)⟩
  · rename_i k _
    split at h
    · rename_i a h1
      obtain ⟨hl, h⟩ := guard_post h
      simp only [Bool.and_eq_true, decide_eq_true_eq] at hl
      obtain ⟨⟨l1, l2⟩, l3⟩ := hl
      obtain ⟨p, xs, rfl, q, rs⟩ := listM_ok s rx h1
      cases ry
      refine .inr ⟨p, k, xs, rfl, rfl, q, l1, l2, by rw [← rs.length]; exact l3, fun z hz => ?_⟩
      have st := Stp.new s (o := .lst (List.replicate k.toNat xs).flatten) hz
      have rep : ∀ n : Nat, VRs X.K w (List.replicate n a).flatten (List.replicate n xs).flatten := fun n => by
        induction n with
        | zero => exact .nil
        | succ n ih => rw [List.replicate_succ, List.replicate_succ, List.flatten_cons, List.flatten_cons]; exact rs.append ih
      exact h (w.new z _) (.ref z) rfl st (s.new hz) (.lst upd_same (fun q => s.tracked q hz) ((rep k.toNat).ext st.x s))
    · exact h.elim
  · exact h.elim
theorem os_fdiv : OpSim X (binaryOp .FloorDiv) fdivU := by
  refine ⟨_, op_fdivW, fun w x y v v' Q s rx ry h => ?_⟩
  unfold fdivU at h
  split at h
  · obtain ⟨hl, h⟩ := guard_post h
    simp only [Bool.and_eq_true, decide_eq_true_eq] at hl
    cases rx; cases ry; exact ⟨_, _, rfl, rfl, hl, OkE.here h s (.int _)⟩
  · exact h.elim
theorem os_mod : OpSim X (binaryOp .Mod) modU := by
  refine ⟨_, op_mod, fun w x y v v' Q s rx ry h => ?_⟩
  unfold modU at h
  split at h
  · obtain ⟨hl, h⟩ := guard_post h
    cases rx; cases ry; exact ⟨_, _, rfl, rfl, of_decide_eq_true hl, OkE.here h s (.int _)⟩
  · exact h.elim
theorem os_pow : OpSim X (binaryOp .Pow) powU := by
  refine ⟨_, op_pow, fun w x y v v' Q s rx ry h => ?_⟩
  unfold powU at h
  split at h
  · obtain ⟨hl, h⟩ := guard_post h
    simp only [Bool.and_eq_true, decide_eq_true_eq] at hl
    cases rx; cases ry; exact ⟨_, _, rfl, rfl, ⟨hl.1.1, hl.1.2, hl.2⟩, OkE.here h s (.int _)⟩
  · exact h.elim
def negU (x : U) (S : Sto) : R U := match x with
  | .int i => .ok (.int (-i)) S
  | _ => .bad
theorem us_neg : UnSim X (unaryOp .USub) negU := by
  refine ⟨_, un_neg, fun x S => by unfold negU; split <;> trivial, fun w x v Q s rx h => ?_⟩
  unfold negU at h
  split at h
  · cases rx; exact ⟨_, rfl, OkE.here h s (.int _)⟩
  · exact h.elim

/-! ### comparisons -/
def flatU : U → Bool
  | .non => true
  | .bl _ => true
  | .int _ => true
  | .str _ => true
  | _ => false
def eqF : U → U → Bool
  | .non, .non => true
  | .bl a, .bl b => a == b
  | .bl a, .int j => bI a == j
  | .int i, .bl b => i == bI b
  | .int i, .int j => i == j
  | .str x, .str y => x == y
  | _, _ => false
/-- the scalars that == tells apart by what they are -/
def scalU : U → U → Bool
  | .bl _, .int _ => false
  | .int _, .bl _ => false
  | x, y => flatU x && flatU y
theorem scal_ok {w : Wd} {x y : U} {v v' : V} (r : VR X.K w x v) (r' : VR X.K w y v') (h : scalU x y = true) : scal v v' = true ∧ decide (v = v') = eqF x y := by
  cases r <;> cases r' <;> first
    | (exfalso; exact Bool.noConfusion h)
    | exact ⟨rfl, rfl⟩
    | exact ⟨rfl, decide_eq_false fun z => nomatch z⟩
    | exact ⟨rfl, decide_eq_true rfl⟩
    | exact ⟨rfl, dec_int⟩
    | exact ⟨rfl, dec_bl⟩
    | exact ⟨rfl, dec_str⟩
def eqOk (x y : U) (S : Sto) (g : Bool → Bool) : R U := if scalU x y then .ok (.bl (g (eqF x y))) S else match toDS x S, toDS y S with
  | some a, some b => guard (SeqAt.shaped a && SeqAt.shaped b) (.ok (.bl (g (PyData.eqv a b))) S)
  | _, _ => .bad
def eqU (x y : U) (S : Sto) : R U := eqOk x y S id
def neU (x y : U) (S : Sto) : R U := eqOk x y S not
theorem noX_eqOk (x y : U) (S : Sto) (g : Bool → Bool) : noX (eqOk x y S g) := by
  unfold eqOk
  split
  · trivial
  · split <;> first | trivial | exact noX_guard trivial
theorem noX_eq (x y : U) (S : Sto) : noX (eqU x y S) := noX_eqOk x y S id
theorem noX_ne (x y : U) (S : Sto) : noX (neU x y S) := noX_eqOk x y S not
theorem os_eq (hu : X.A.units + 64 < cLine) : OpSim X (compareOp .Eq) eqU := by
  refine ⟨_, op_eq.or (op_eqD hu), fun w x y v v' Q s rx ry h => ?_⟩
  unfold eqU eqOk at h
  split at h
  · rename_i hs
    obtain ⟨h1, h2⟩ := scal_ok rx ry hs
    exact .inl ⟨h1, by rw [h2]; exact OkE.here h s (.bl _)⟩
  · split at h
    · rename_i a b h1 h2
      obtain ⟨hl, h⟩ := guard_post h
      simp only [Bool.and_eq_true] at hl
      exact .inr ⟨a, b, toDS_ok s rx h1, toDS_ok s ry h2, hl.1, hl.2, OkE.here h s (.bl _)⟩
    · exact h.elim
theorem os_ne (hu : X.A.units + 64 < cLine) : OpSim X (compareOp .NotEq) neU := by
  refine ⟨_, op_ne.or (op_neD hu), fun w x y v v' Q s rx ry h => ?_⟩
  unfold neU eqOk at h
  split at h
  · rename_i hs
    obtain ⟨h1, h2⟩ := scal_ok rx ry hs
    exact .inl ⟨h1, by rw [h2]; exact OkE.here h s (.bl _)⟩
  · split at h
    · rename_i a b h1 h2
      obtain ⟨hl, h⟩ := guard_post h
      simp only [Bool.and_eq_true] at hl
      exact .inr ⟨a, b, toDS_ok s rx h1, toDS_ok s ry h2, hl.1, hl.2, OkE.here h s (.bl _)⟩
    · exact h.elim
def ltU (x y : U) (S : Sto) : R U := match x, y with
  | .int i, .int j => .ok (.bl (decide (i < j))) S
  | .str a, .str b => .ok (.bl (decide (a.cps.toList < b.cps.toList))) S
  | _, _ => .bad
def leU (x y : U) (S : Sto) : R U := match x, y with
  | .int i, .int j => .ok (.bl (decide (i ≤ j))) S
  | _, _ => .bad
def gtU (x y : U) (S : Sto) : R U := match x, y with
  | .int i, .int j => .ok (.bl (decide (j < i))) S
  | _, _ => .bad
def geU (x y : U) (S : Sto) : R U := match x, y with
  | .int i, .int j => .ok (.bl (decide (j ≤ i))) S
  | _, _ => .bad
theorem noX_lt (x y : U) (S : Sto) : noX (ltU x y S) := by unfold ltU; split <;> trivial
theorem noX_le (x y : U) (S : Sto) : noX (leU x y S) := by unfold leU; split <;> trivial
theorem noX_gt (x y : U) (S : Sto) : noX (gtU x y S) := by unfold gtU; split <;> trivial
theorem noX_ge (x y : U) (S : Sto) : noX (geU x y S) := by unfold geU; split <;> trivial
theorem os_lt : OpSim X (compareOp .Lt) ltU := by
  refine ⟨_, op_lt.or op_lt_str, fun w x y v v' Q s rx ry h => ?_⟩
  unfold ltU at h
  split at h
  · cases rx; cases ry; exact .inl ⟨_, _, rfl, rfl, OkE.here h s (.bl _)⟩
  · cases rx; cases ry; exact .inr ⟨_, _, rfl, rfl, OkE.here h s (.bl _)⟩
  · exact h.elim
theorem os_le : OpSim X (compareOp .LtE) leU := by
  refine ⟨_, op_le, fun w x y v v' Q s rx ry h => ?_⟩
  unfold leU at h
  split at h
  · cases rx; cases ry; exact ⟨_, _, rfl, rfl, OkE.here h s (.bl _)⟩
  · exact h.elim
theorem os_gt : OpSim X (compareOp .Gt) gtU := by
  refine ⟨_, op_gt, fun w x y v v' Q s rx ry h => ?_⟩
  unfold gtU at h
  split at h
  · cases rx; cases ry; exact ⟨_, _, rfl, rfl, OkE.here h s (.bl _)⟩
  · exact h.elim
theorem os_ge : OpSim X (compareOp .GtE) geU := by
  refine ⟨_, op_ge, fun w x y v v' Q s rx ry h => ?_⟩
  unfold geU at h
  split at h
  · cases rx; cases ry; exact ⟨_, _, rfl, rfl, OkE.here h s (.bl _)⟩
  · exact h.elim
def isNon : U → Bool
  | .non => true
  | _ => false
def isU (x y : U) (S : Sto) : R U := match y with
  | .non => .ok (.bl (isNon x)) S
  | _ => .bad
def isnU (x y : U) (S : Sto) : R U := match y with
  | .non => .ok (.bl (!isNon x)) S
  | _ => .bad
theorem noX_is (x y : U) (S : Sto) : noX (isU x y S) := by unfold isU; split <;> trivial
theorem noX_isn (x y : U) (S : Sto) : noX (isnU x y S) := by unfold isnU; split <;> trivial
theorem isNon_ok {w : Wd} {x : U} {v : V} (r : VR X.K w x v) : decide (v = .non) = isNon x := by
  cases r <;> first | rfl | exact decide_eq_false (fun z => nomatch z)
theorem os_is : OpSim X (compareOp .Is) isU := by
  refine ⟨_, op_isN, fun w x y v v' Q s rx ry h => ?_⟩
  unfold isU at h
  split at h
  · cases ry; exact ⟨rfl, by rw [isNon_ok rx]; exact OkE.here h s (.bl _)⟩
  · exact h.elim
theorem os_isn : OpSim X (compareOp .IsNot) isnU := by
  refine ⟨_, op_notN, fun w x y v v' Q s rx ry h => ?_⟩
  unfold isnU at h
  split at h
  · cases ry; exact ⟨rfl, by rw [isNon_ok rx]; exact OkE.here h s (.bl _)⟩
  · exact h.elim

/-! ### in -/
def inStr (a b : Str) : Bool := match a.cps.toList with
  | [c] => decide (c ∈ b.cps.toList)
  | _ => !(Builtin.Str.occurrences b a 0 b.length 1).isEmpty
/-- a flat thing in a list of flat ones -/
def flatL (x y : U) (S : Sto) : Option Bool := match listOf y S with
  | some us => if flatU x && us.all flatU then some (us.any fun z => eqF z x) else none
  | none => none
def inB (x y : U) (S : Sto) : Option Bool := match y with
  | .str b => match x with
    | .str a => some (inStr a b)
    | _ => none
  | .tup us => if flatU x && us.all flatU then some (us.any fun z => eqF z x) else none
  | y => match dictOf y S, keyU x with
    | some (ks, us), some k => some (valU ks us k).isSome
    | _, _ => match flatL x y S with
      | some b => some b
      | none => match toDS x S, toDS y S with
        | some d, some (.list ds) => if SeqAt.shaped d && SeqAt.shaped (.list ds) then some (ds.any fun z => PyData.eqv z d) else none
        | _, _ => none
def inU (x y : U) (S : Sto) : R U := match inB x y S with
  | some b => .ok (.bl b) S
  | none => .bad
def ninU (x y : U) (S : Sto) : R U := match inB x y S with
  | some b => .ok (.bl (!b)) S
  | none => .bad
theorem noX_in (x y : U) (S : Sto) : noX (inU x y S) := by unfold inU; split <;> trivial
theorem noX_nin (x y : U) (S : Sto) : noX (ninU x y S) := by unfold ninU; split <;> trivial
end
end DL

set_option Elab.async false
set_option linter.all false
set_option maxRecDepth 100000
namespace DL
open PySem PySem.Spec L2
section
variable {X : Cx} {Wx : WX}

/-! ### in -/
theorem op_in_dict (hu : X.A.units + 1 < cLine) : OpR X (compareOp .In) (fun y x H Q => ∃ a o, x = .ref a ∧ DGet H a y o ∧ Q (.bl o.isSome) H) := by
  intro pins s σ H x y v u Q I rx ry h
  obtain ⟨a, o, rfl, g, q⟩ := h
  cases ry
  exact d_in hu I g rx fun s' I' => ⟨.bl o.isSome, H, I', rfl, q⟩
theorem op_nin_dict (hu : X.A.units + 1 < cLine) : OpR X (compareOp .NotIn) (fun y x H Q => ∃ a o, x = .ref a ∧ DGet H a y o ∧ Q (.bl (!o.isSome)) H) := by
  intro pins s σ H x y v u Q I rx ry h
  obtain ⟨a, o, rfl, g, q⟩ := h
  cases ry
  exact d_notIn hu I g rx fun s' I' => ⟨.bl (!o.isSome), H, I', rfl, q⟩
theorem flat_ok {K : PySem.W.Frag} {w : Wd} {u : U} {v : V} (r : VR K w u v) (h : flatU u = true) : flatV v = true := by
  cases r <;> first | rfl | cases h
theorem flats_ok {K : PySem.W.Frag} {w : Wd} : ∀ {us : List U} {vs : List V}, VRs K w us vs → us.all flatU = true → vs.all flatV = true
  | _, _, .nil, _ => rfl
  | _, _, .cons r rs, h => by
    rw [List.all_cons, Bool.and_eq_true] at h
    rw [List.all_cons, flat_ok r h.1, flats_ok rs h.2]; rfl
theorem eqF_ok {K : PySem.W.Frag} {w : Wd} {x y : U} {v v' : V} (r : VR K w x v) (r' : VR K w y v') (h : flatU x = true) (h' : flatU y = true) : eqV v v' = eqF x y := by
  cases r <;> first | (exfalso; exact Bool.noConfusion h) | (cases r' <;> first | (exfalso; exact Bool.noConfusion h') | rfl)
theorem anyF_ok {K : PySem.W.Frag} {w : Wd} {y : U} {v' : V} (r' : VR K w y v') (h' : flatU y = true) : ∀ {us : List U} {vs : List V}, VRs K w us vs → us.all flatU = true → inV v' vs = us.any fun z => eqF z y
  | _, _, .nil, _ => rfl
  | _, _, .cons r rs, h => by
    rw [List.all_cons, Bool.and_eq_true] at h
    unfold inV
    rw [List.any_cons, List.any_cons, eqF_ok r r' h.1 h', ← anyF_ok r' h' rs h.2]
    rfl
theorem inStr_one {a b : Str} {c : Nat} (h : a.cps.toList = [c]) : a = ⟨#[c]⟩ ∧ inStr a b = decide (c ∈ b.cps.toList) := by
  refine ⟨?_, ?_⟩
  · cases a with
    | mk l => cases l with
      | mk l => cases h; rfl
  · unfold inStr; rw [h]
theorem inB_cases {w : Wd} {x y : U} {v v' : V} {b : Bool} (s : SR X.K w) (rx : VR X.K w x v) (ry : VR X.K w y v') (h : inB x y w.S = some b) :
    (∃ c z, v = .str ⟨#[c]⟩ ∧ v' = .str z ∧ b = decide (c ∈ z.cps.toList)) ∨ (∃ i j, v = .str i ∧ v' = .str j ∧ b = !(Builtin.Str.occurrences j i 0 j.length 1).isEmpty) ∨
    (∃ p xs, v' = .ref p ∧ (SqL X.K w.H p xs ∨ SqT X.K w.H p xs) ∧ flatV v = true ∧ xs.all flatV = true ∧ b = inV v xs) ∨
    (∃ d ds, Dp X.K w.H v d ∧ Dp X.K w.H v' (.list ds) ∧ SeqAt.shaped d = true ∧ SeqAt.shaped (.list ds) = true ∧ b = ds.any fun z => PyData.eqv z d) ∨
    (∃ a o, v' = .ref a ∧ DGet w.H a v o ∧ b = o.isSome) := by
  unfold inB at h
  split at h
  · rename_i z
    split at h
    · rename_i i
      cases h
      cases rx; cases ry
      unfold inStr
      split
      · rename_i c hc
        exact .inl ⟨c, z, by rw [(inStr_one (b := z) hc).1], rfl, rfl⟩
      · exact .inr (.inl ⟨i, z, rfl, rfl, rfl⟩)
    · cases h
  · rename_i us
    split at h
    · rename_i hf
      cases h
      rw [Bool.and_eq_true] at hf
      cases ry with
      | tup hq rs => exact .inr (.inr (.inl ⟨_, _, rfl, .inr hq.sq, flat_ok rx hf.1, flats_ok rs hf.2, (anyF_ok rx hf.1 rs hf.2).symm⟩))
    · cases h
  · split at h
    · rename_i ks us k h1 h2
      cases h
      obtain ⟨a, xs, rfl, q, l, rs⟩ := dictOf_ok s ry h1
      rw [keyU_ok rx h2]
      exact .inr (.inr (.inr (.inr ⟨a, _, rfl, DGet.k q, valU_rel k rs⟩)))
    · split at h
      · rename_i b0 hb0
        cases h
        unfold flatL at hb0
        split at hb0
        · rename_i us hl
          split at hb0
          · rename_i hf
            cases hb0
            rw [Bool.and_eq_true] at hf
            obtain ⟨a, xs, rfl, hq, rs⟩ := listOf_ok s ry hl
            exact .inr (.inr (.inl ⟨_, _, rfl, .inl hq, flat_ok rx hf.1, flats_ok rs hf.2, (anyF_ok rx hf.1 rs hf.2).symm⟩))
          · cases hb0
        · cases hb0
      · split at h
        · rename_i d ds h1 h2
          split at h
          · rename_i hs
            cases h
            rw [Bool.and_eq_true] at hs
            exact .inr (.inr (.inr (.inl ⟨d, ds, toDS_ok s rx h1, toDS_ok s ry h2, hs.1, hs.2, rfl⟩)))
          · cases h
        · cases h
theorem os_in (hu : X.A.units + 66 < cLine) : OpSim X (compareOp .In) inU := by
  refine ⟨_, op_in_sign.or (op_in_str.or (op_in_seq.or ((op_inD (by omega)).or (op_in_dict (by omega))))), fun w x y v v' Q s rx ry h => ?_⟩
  unfold inU at h
  split at h
  · rename_i b hb
    have q := OkE.here h s (.bl b)
    rcases inB_cases s rx ry hb with ⟨c, z, rfl, rfl, e⟩ | ⟨i, j, rfl, rfl, e⟩ | ⟨p, xs, rfl, h1, h2, h3, e⟩ | ⟨d, ds, h1, h2, h3, h4, e⟩ | ⟨a, o, rfl, g, e⟩
    · exact .inl ⟨c, z, rfl, rfl, e ▸ q⟩
    · exact .inr (.inl ⟨i, j, rfl, rfl, e ▸ q⟩)
    · exact .inr (.inr (.inl ⟨p, xs, rfl, h1, h2, h3, e ▸ q⟩))
    · exact .inr (.inr (.inr (.inl ⟨d, ds, h1, h2, h3, h4, e ▸ q⟩)))
    · exact .inr (.inr (.inr (.inr ⟨a, o, rfl, g, e ▸ q⟩)))
  · exact h.elim
theorem os_nin (hu : X.A.units + 66 < cLine) : OpSim X (compareOp .NotIn) ninU := by
  refine ⟨_, op_notIn_sign.or (op_notin_str.or (op_notIn_seq.or ((op_notInD (by omega)).or (op_nin_dict (by omega))))), fun w x y v v' Q s rx ry h => ?_⟩
  unfold ninU at h
  split at h
  · rename_i b hb
    have q := OkE.here h s (.bl (!b))
    rcases inB_cases s rx ry hb with ⟨c, z, rfl, rfl, e⟩ | ⟨i, j, rfl, rfl, e⟩ | ⟨p, xs, rfl, h1, h2, h3, e⟩ | ⟨d, ds, h1, h2, h3, h4, e⟩ | ⟨a, o, rfl, g, e⟩
    · exact .inl ⟨c, z, rfl, rfl, e ▸ q⟩
    · exact .inr (.inl ⟨i, j, rfl, rfl, e ▸ q⟩)
    · exact .inr (.inr (.inl ⟨p, xs, rfl, h1, h2, h3, e ▸ q⟩))
    · exact .inr (.inr (.inr (.inl ⟨d, ds, h1, h2, h3, h4, e ▸ q⟩)))
    · exact .inr (.inr (.inr (.inr ⟨a, o, rfl, g, e ▸ q⟩)))
  · exact h.elim

/-! ### x[i] -/
def ixB (x y : U) (S : Sto) : Option U := match x, y with
  | .str z, .int i => if z.length ≤ sizeLine then (atI z.cps.toList i).map fun c => .str ⟨#[c]⟩ else none
  | .tup us, .int i => atI us i
  | x, y => match listOf x S with
    | some us => match y with
      | .int i => atI us i
      | _ => none
    | none => match dictOf x S, keyU y with
      | some (ks, us), some k => valU ks us k
      | _, _ => none
def oU (o : Option U) (S : Sto) : R U := match o with
  | some u => .ok u S
  | none => .bad
def ixU (x y : U) (S : Sto) : R U := oU (ixB x y S) S
theorem atI_rel {K : PySem.W.Frag} {w : Wd} {us : List U} {xs : List V} {i : Int} {u : U} (r : VRs K w us xs) (h : atI us i = some u) : ∃ v, atI xs i = some v ∧ VR K w u v := by
  unfold atI at h ⊢
  rw [← r.length]
  cases q : ixN us.length i with
  | none => rw [q] at h; cases h
  | some j =>
    rw [q] at h
    exact r.get h
theorem ix_dict (hu : X.A.units + 1 < cLine) : IxR X (fun x y H Q => ∃ a v, x = .ref a ∧ DGet H a y (some v) ∧ Q v H) := by
  intro value slice pins s σ H x y v u Q I rx ry h hs
  obtain ⟨a, z, rfl, g, q⟩ := h
  cases rx
  exact PyProof.Rows.tail_any (dict_typeIs I g) slot_dict_getitem.lookup (d_getItem hu I g ry fun w' s' I' r' => ⟨z, H, I', r', q⟩) hs
theorem se_ix {a b : Expr} {fa fb : FE} {pos : Pos} (hu : X.A.units + 1 < cLine) (ha : SimE X Wx a fa) (hb : SimE X Wx b fb) (hs : PlainIx b := by intro _ _; rfl) : SimE X Wx (.Subscript a b pos) (f2 ixU fa fb) := by
  obtain ⟨ta, pa, ha⟩ := ha.out
  obtain ⟨tb, pb, hb⟩ := hb.out
  refine SimE.mk (pe_ix (ix_seq.or (ix_dict hu)) pa pb hs) (fun w d σ Q s e h => two (a := a) (b := b) (r := fun x y H Q => rIx X.K x y H Q ∨ ∃ a v, x = .ref a ∧ DGet H a y (some v) ∧ Q v H) ha hb (fun w x y v v' Q s rx ry h => ?_) (fun x y S => by unfold ixU oU; split <;> trivial) w d σ Q s e h)
  unfold ixU oU at h
  split at h
  · rename_i u hu'
    unfold ixB at hu'
    split at hu'
    · split at hu'
      · rename_i z i hl
        cases rx; cases ry
        cases q : atI z.cps.toList i with
        | none => rw [q] at hu'; cases hu'
        | some c => rw [q] at hu'; cases hu'; exact .inl (.inr (.inr ⟨z, i, c, rfl, rfl, hl, q, OkE.here h s (.str _)⟩))
      · cases hu'
    · cases rx with
      | tup hq rs =>
        cases ry
        obtain ⟨v, e1, e2⟩ := atI_rel rs hu'
        exact .inl (.inr (.inl ⟨_, _, _, v, rfl, rfl, hq.sq, e1, OkE.here h s e2⟩))
    · split at hu'
      · rename_i us hl
        split at hu'
        · obtain ⟨p, xs, rfl, q, rs⟩ := listOf_ok s rx hl
          cases ry
          obtain ⟨v, e1, e2⟩ := atI_rel rs hu'
          exact .inl (.inl ⟨_, _, _, v, rfl, rfl, q, e1, OkE.here h s e2⟩)
        · cases hu'
      · split at hu'
        · rename_i ks us k h1 h2
          obtain ⟨p, xs, rfl, q, l, rs⟩ := dictOf_ok s rx h1
          rw [keyU_ok ry h2]
          obtain ⟨v, e1, e2⟩ := (valU_ok (ks := ks) k rs).2 u hu'
          exact .inr ⟨p, v, rfl, by rw [← e1]; exact DGet.k q, OkE.here h s e2⟩
        · cases hu'
  · exact h.elim

/-! ### slices -/
def cutU (us : List U) (lo hi : Option Int) : List U := (us.drop (HT.sIx us.length 0 lo)).take (HT.sIx us.length us.length hi - HT.sIx us.length 0 lo)
theorem cut_rel {K : PySem.W.Frag} {w : Wd} {us : List U} {xs : List V} (lo hi : Option Int) (r : VRs K w us xs) : VRs K w (cutU us lo hi) (cutV xs lo hi) := by
  unfold cutU cutV
  rw [← r.length]
  exact (r.drop _).take _
abbrev FO := En → Sto → R (Option Int)
def oNone : FO := fun _ S => .ok none S
def oSome (f : FE) : FO := fun d S => (f d S).bind fun u S1 => match u with
  | .int i => .ok (some i) S1
  | _ => .bad
def OkO (X : Cx) (w : Wd) (Q : Option Int → Hp → Prop) (o : Option Int) (S' : Sto) : Prop := ∀ (w' : Wd), w'.S = S' → Stp w w' → SR X.K w' → Q o w'.H
theorem OkO.up {w w1 : Wd} {Q : Option Int → Hp → Prop} {u : Option Int} {S' : Sto} (h : OkO X w Q u S') (st : Stp w w1) : OkO X w1 Q u S' := fun w' e s2 sr => h w' e (st.trans s2) sr
def tO (X : Cx) (Wx : WX) (f : FO) : TO := fun σ H Q => ∃ (w : Wd) (d : En), w.H = H ∧ SR X.K w ∧ ER X.K w d σ ∧ Pst (f d w.S) (OkO X w Q) (XPost X Wx σ w)
def SimO (X : Cx) (Wx : WX) (e : Option Expr) (f : FO) : Prop := PO X e (tO X Wx f)
theorem SimO.out {e : Option Expr} {f : FO} (h : SimO X Wx e f) : ∃ t, PO X e t ∧ ∀ (w : Wd) (d : En) (σ : L2.St) (Q : Option Int → Hp → Prop), SR X.K w → ER X.K w d σ → Pst (f d w.S) (OkO X w Q) (XPost X Wx σ w) → t σ w.H Q := ⟨_, h, fun w d _ _ s e p => ⟨w, d, rfl, s, e, p⟩⟩
theorem SimO.mk {e : Option Expr} {f : FO} {t : TO} (p : PO X e t) (h : ∀ (w : Wd) (d : En) (σ : L2.St) (Q : Option Int → Hp → Prop), SR X.K w → ER X.K w d σ → Pst (f d w.S) (OkO X w Q) (XPost X Wx σ w) → t σ w.H Q) : SimO X Wx e f :=
  ⟨fun pins s σ H Q I ⟨w, d, e, sr, er, q⟩ => p.run pins s σ H Q I (by subst e; exact h w d σ Q sr er q)⟩
theorem so_none : SimO X Wx none oNone := SimO.mk (po_none) (fun w d σ Q s e h => h w rfl (Stp.refl w) s)
theorem so_some {e : Expr} {f : FE} (h : SimE X Wx e f) : SimO X Wx (some e) (oSome f) := by
  obtain ⟨t, p, h⟩ := h.out
  refine SimO.mk (po_some p) (fun w d σ Q s e h0 => ?_)
  refine h w d σ _ s e ((Pst.of_bind h0).mono (fun u S1 h1 w1 v1 eS st s1 r1 => ?_) fun _ _ q => q)
  cases r1 with
  | int i => exact ⟨i, rfl, h1 w1 eS st s1⟩
  | _ => exact h1.elim
def slB (x : U) (lo hi : Option Int) (S : Sto) : Option U := match x with
  | .str z => if z.length ≤ sizeLine then some (.str (cutS z lo hi)) else none
  | .tup us => some (.tup (cutU us lo hi))
  | x => (listOf x S).map fun us => .lst (cutU us lo hi)
def fSl (f : FE) (l h : FO) : FE := fun d S => (f d S).bind fun u S1 => (l d S1).bind fun lo S2 => (h d S2).bind fun hi S3 => oU (slB u lo hi S3) S3
/-- the parts, from the left -/
theorem slice_parts {te : TE} {tl th : TO} {f : FE} {l hh : FO}
    (h1 : ∀ (w : Wd) (d : En) (σ : L2.St) (Q : VK), SR X.K w → ER X.K w d σ → Pst (f d w.S) (OkE X w Q) (XPost X Wx σ w) → te σ w.H Q)
    (h2 : ∀ (w : Wd) (d : En) (σ : L2.St) (Q : Option Int → Hp → Prop), SR X.K w → ER X.K w d σ → Pst (l d w.S) (OkO X w Q) (XPost X Wx σ w) → tl σ w.H Q)
    (h3 : ∀ (w : Wd) (d : En) (σ : L2.St) (Q : Option Int → Hp → Prop), SR X.K w → ER X.K w d σ → Pst (hh d w.S) (OkO X w Q) (XPost X Wx σ w) → th σ w.H Q)
    {α : Type} {k : U → Option Int → Option Int → Sto → R α} {P : α → Sto → Prop} {r : V → Option Int → Option Int → Hp → Prop} {w : Wd} {d : En} {σ : L2.St} (s : SR X.K w) (e : ER X.K w d σ)
    (hk : ∀ (w' : Wd) u v lo hi, Stp w w' → SR X.K w' → VR X.K w' u v → Pst (k u lo hi w'.S) P (XPost X Wx σ w) → r v lo hi w'.H)
    (h : Pst ((f d w.S).bind fun u S1 => (l d S1).bind fun lo S2 => (hh d S2).bind fun hi S3 => k u lo hi S3) P (XPost X Wx σ w)) :
    te σ w.H fun x H1 => tl σ H1 fun lo H2 => th σ H2 fun u H3 => r x lo u H3 := by
  refine h1 w d σ _ s e ((Pst.of_bind h).mono (fun x S1 g1 w1 v1 eS st s1 r1 => ?_) fun _ _ q => q)
  subst eS
  have e1 := e.ext st.x s
  refine h2 w1 d σ _ s1 e1 ((Pst.of_bind g1).mono (fun lo S2 g2 w2 eS st2 s2 => ?_) fun _ _ q => q.up st)
  subst eS
  have e2 := e1.ext st2.x s1
  refine h3 w2 d σ _ s2 e2 ((Pst.of_bind g2).mono (fun hi S3 g3 w3 eS st3 s3 => ?_) fun _ _ q => q.up (st.trans st2))
  subst eS
  exact hk w3 x v1 lo hi ((st.trans st2).trans st3) s3 ((r1.ext st2.x s1).ext st3.x s2) g3
theorem se_slice {e : Expr} {lo hi : Option Expr} {f : FE} {l h : FO} {p2 pos : Pos} (h1 : SimE X Wx e f) (h2 : SimO X Wx lo l) (h3 : SimO X Wx hi h) : SimE X Wx (.Subscript e (.Slice lo hi none p2) pos) (fSl f l h) := by
  obtain ⟨te, pe, h1⟩ := h1.out
  obtain ⟨tl, pl, h2⟩ := h2.out
  obtain ⟨th, ph, h3⟩ := h3.out
  refine SimE.mk (pe_slice (sl_str.or (sl_tupA.or sl_list)) pe pl ph) (fun w d σ Q s e h => slice_parts h1 h2 h3 s e (fun w' u v lo hi st s' r g => ?_) h)
  unfold oU at g
  split at g
  · rename_i z hz
    have g := OkE.up g st
    unfold slB at hz
    split at hz
    · split at hz
      · rename_i hl
        cases hz
        cases r
        exact .inl ⟨_, rfl, hl, OkE.here g s' (.str _)⟩
      · cases hz
    · cases hz
      cases r with
      | @tup p xs us hq rs =>
        refine .inr (.inl ⟨p, xs, rfl, hq.sq, fun q => ?_, fun q z hz => ?_⟩)
        · refine OkE.here g s' (.tup hq ?_)
          unfold cutU
          rw [rs.length, q.1, q.2, List.drop_zero, Nat.sub_zero, ← rs.length, List.take_length]
          exact rs
        · have st := Stp.new s' (o := .tup (cutV xs lo hi)) hz
          exact g (w'.new z _) (.ref z) rfl st (s'.new hz) (.tup (TqT.of upd_same) ((cut_rel lo hi rs).ext st.x s'))
    · rename_i x _ _
      cases q : listOf u w'.S with
      | none => rw [q] at hz; cases hz
      | some us =>
        rw [q] at hz
        cases hz
        obtain ⟨p, xs, rfl, hq, rs⟩ := listOf_ok s' r q
        refine .inr (.inr ⟨p, xs, rfl, hq, fun z hz => ?_⟩)
        have st := Stp.new s' (o := .lst (cutV xs lo hi)) hz
        exact g (w'.new z _) (.ref z) rfl st (s'.new hz) (.lst upd_same (fun q => s'.tracked q hz) ((cut_rel lo hi rs).ext st.x s'))
  · exact g.elim
/-- a list's slice, as a new list -/
def aSl (f : FE) (l h : FO) : FA := fun d S => (f d S).bind fun u S1 => (l d S1).bind fun lo S2 => (h d S2).bind fun hi S3 => match listOf u S3 with
  | some us => .ok (cutU us lo hi) S3
  | none => .bad
theorem sl_slice {e : Expr} {lo hi : Option Expr} {f : FE} {l h : FO} {p2 pos : Pos} (h1 : SimE X Wx e f) (h2 : SimO X Wx lo l) (h3 : SimO X Wx hi h) : SimL X Wx (.Subscript e (.Slice lo hi none p2) pos) (aSl f l h) := by
  obtain ⟨te, pe, h1⟩ := h1.out
  obtain ⟨tl, pl, h2⟩ := h2.out
  obtain ⟨th, ph, h3⟩ := h3.out
  refine SimL.mk (pe_slice sl_list pe pl ph) (fun w d σ Q s e h => slice_parts h1 h2 h3 s e (fun w' u v lo hi st s' r g => ?_) h)
  split at g
  · rename_i us q
    obtain ⟨p, xs, rfl, hq, rs⟩ := listOf_ok s' r q
    exact ⟨p, xs, rfl, hq, fun z hz => (OkL.up g st) w' z _ rfl (Stp.refl w') s' (cut_rel lo hi rs) hz⟩
  · exact g.elim

/-! ### built-in functions and methods -/
def CallSim (X : Cx) (f : Value) (g : List U → Sto → R U) : Prop := ∃ r, CallR X f r ∧ (∀ us S, noX (g us S)) ∧
  ∀ (w : Wd) (us : List U) (vs : List V) (Q : VK), SR X.K w → VRs X.K w us vs → Pst (g us w.S) (OkE X w Q) (fun _ _ => False) → r vs w.H Q
/-- one that makes a new list -/
def CallSimL (X : Cx) (f : Value) (g : List U → Sto → R (List U)) : Prop := ∃ r, CallR X f r ∧
  ∀ (w : Wd) (us : List U) (vs : List V) (Q : VK) (E : Exc → Sto → Prop), SR X.K w → VRs X.K w us vs → Pst (g us w.S) (OkL X w Q) E → r vs w.H Q
def fA {α : Type} (g : List U → Sto → R α) (fa : FA) : En → Sto → R α := fun d S => (fa d S).bind g
theorem cb_core {es : List Expr} {fa : FA} {ta : TA} {g : List U → Sto → R U} {r : List V → Hp → VK → Prop} (hn : ∀ us S, noX (g us S))
    (hg : ∀ (w : Wd) (us : List U) (vs : List V) (Q : VK), SR X.K w → VRs X.K w us vs → Pst (g us w.S) (OkE X w Q) (fun _ _ => False) → r vs w.H Q)
    (ha : ∀ (w : Wd) (d : En) (σ : L2.St) (Q : List V → Hp → Prop), SR X.K w → ER X.K w d σ → Pst (fa d w.S) (OkA X w Q) (XPost X Wx σ w) → ta σ w.H Q)
    (w : Wd) (d : En) (σ : L2.St) (Q : VK) (s : SR X.K w) (e : ER X.K w d σ) (h : Pst (fA g fa d w.S) (OkE X w Q) (XPost X Wx σ w)) : ta σ w.H fun vs H1 => r vs H1 Q := by
  refine ha w d σ _ s e ((Pst.of_bind h).mono (fun us S1 h1 w1 vs eS st s1 rs => ?_) fun _ _ q => q)
  subst eS
  exact hg w1 us vs Q s1 rs ((pst_noX h1 (hn us w1.S)).mono (fun _ _ q => q.up st) fun _ _ q => q)
theorem cb_coreL {es : List Expr} {fa : FA} {ta : TA} {g : List U → Sto → R (List U)} {r : List V → Hp → VK → Prop}
    (hg : ∀ (w : Wd) (us : List U) (vs : List V) (Q : VK) (E : Exc → Sto → Prop), SR X.K w → VRs X.K w us vs → Pst (g us w.S) (OkL X w Q) E → r vs w.H Q)
    (ha : ∀ (w : Wd) (d : En) (σ : L2.St) (Q : List V → Hp → Prop), SR X.K w → ER X.K w d σ → Pst (fa d w.S) (OkA X w Q) (XPost X Wx σ w) → ta σ w.H Q)
    (w : Wd) (d : En) (σ : L2.St) (Q : VK) (s : SR X.K w) (e : ER X.K w d σ) (h : Pst (fA g fa d w.S) (OkL X w Q) (XPost X Wx σ w)) : ta σ w.H fun vs H1 => r vs H1 Q := by
  refine ha w d σ _ s e ((Pst.of_bind h).mono (fun us S1 h1 w1 vs eS st s1 rs => ?_) fun _ _ q => q)
  subst eS
  exact hg w1 us vs Q _ s1 rs (h1.mono (fun _ _ q => q.up st) fun _ _ q => q)
variable {x : Str} {p pos apos cpos : Pos} {e o : Expr} {es : List Expr} {id T : String} {fa : FA} {fo : FE}
theorem se_callB {g : List U → Sto → R U} (hc : CallSim X (.builtin id) g) (hg : Gl X x) (hm : X.mg x = none) (hv : bootBuiltins x = some (.builtin id)) (ha : SimA X Wx (e :: es) fa) (hn : x ≠ "__name__" := by decide) (hdb : (x == ("__debug__" : Str)) = false := by decide)
    (he : starEach (e :: es) X.env = (false, eval e X.env) :: starEach es X.env := by rfl) (hpl : (backTo pos (starEach es X.env)).any (·.1) = false := by rfl) : SimE X Wx (.Call (.Name x p) (e :: es) [] pos) (fA g fa) := by
  obtain ⟨r, hc, hx, hr⟩ := hc
  obtain ⟨ta, pa, ha⟩ := ha.out
  exact SimE.mk (pe_callB hc hg hm hv pa hn hdb he hpl) (fun w d σ Q s e h => cb_core (es := es) hx hr ha w d σ Q s e h)
theorem se_callTy {g : List U → Sto → R U} (hc : CallSim X (.type T) g) (hg : Gl X x) (hm : X.mg x = none) (hv : bootBuiltins x = some (.type T)) (ha : SimA X Wx (e :: es) fa) (hn : x ≠ "__name__" := by decide) (hdb : (x == ("__debug__" : Str)) = false := by decide)
    (he : starEach (e :: es) X.env = (false, eval e X.env) :: starEach es X.env := by rfl) (hpl : (backTo pos (starEach es X.env)).any (·.1) = false := by rfl) : SimE X Wx (.Call (.Name x p) (e :: es) [] pos) (fA g fa) := by
  obtain ⟨r, hc, hx, hr⟩ := hc
  obtain ⟨ta, pa, ha⟩ := ha.out
  exact SimE.mk (pe_callTy hc hg hm hv pa hn hdb he hpl) (fun w d σ Q s e h => cb_core (es := es) hx hr ha w d σ Q s e h)
theorem sl_callB {g : List U → Sto → R (List U)} (hc : CallSimL X (.builtin id) g) (hg : Gl X x) (hm : X.mg x = none) (hv : bootBuiltins x = some (.builtin id)) (ha : SimA X Wx (e :: es) fa) (hn : x ≠ "__name__" := by decide) (hdb : (x == ("__debug__" : Str)) = false := by decide)
    (he : starEach (e :: es) X.env = (false, eval e X.env) :: starEach es X.env := by rfl) (hpl : (backTo pos (starEach es X.env)).any (·.1) = false := by rfl) : SimL X Wx (.Call (.Name x p) (e :: es) [] pos) (fA g fa) := by
  obtain ⟨r, hc, hr⟩ := hc
  obtain ⟨ta, pa, ha⟩ := ha.out
  exact SimL.mk (pe_callB hc hg hm hv pa hn hdb he hpl) (fun w d σ Q s e h => cb_coreL (es := es) hr ha w d σ Q s e h)
theorem sl_callTy {g : List U → Sto → R (List U)} (hc : CallSimL X (.type T) g) (hg : Gl X x) (hm : X.mg x = none) (hv : bootBuiltins x = some (.type T)) (ha : SimA X Wx (e :: es) fa) (hn : x ≠ "__name__" := by decide) (hdb : (x == ("__debug__" : Str)) = false := by decide)
    (he : starEach (e :: es) X.env = (false, eval e X.env) :: starEach es X.env := by rfl) (hpl : (backTo pos (starEach es X.env)).any (·.1) = false := by rfl) : SimL X Wx (.Call (.Name x p) (e :: es) [] pos) (fA g fa) := by
  obtain ⟨r, hc, hr⟩ := hc
  obtain ⟨ta, pa, ha⟩ := ha.out
  exact SimL.mk (pe_callTy hc hg hm hv pa hn hdb he hpl) (fun w d σ Q s e h => cb_coreL (es := es) hr ha w d σ Q s e h)
/-- of which type a value must be for a method -/
def tyU (T : String) (u : U) (S : Sto) : Bool := match u with
  | .str _ => T == "str"
  | .int _ => T == "int"
  | .lst _ => T == "list"
  | .frz _ => T == "list"
  | .dic _ _ => T == "dict"
  | .loc n => match S[n]? with
    | some (.lst _) => T == "list"
    | some (.dic _ _) => T == "dict"
    | _ => false
  | _ => false
theorem tyU_ok {w : Wd} {u : U} {v : V} {T : String} (s : SR X.K w) (r : VR X.K w u v) (h : tyU T u w.S = true) : tyV X.K T v w.H := by
  cases r with
  | str z => exact eq_of_beq h
  | int i => exact eq_of_beq h
  | lst hq n rs => exact .inl ⟨eq_of_beq h, _, SqL.of hq⟩
  | frz hq rs => exact .inl ⟨eq_of_beq h, _, hq.sq⟩
  | dic hq n l rs => exact .inr (.inr (.inl ⟨eq_of_beq h, .inl ⟨_, hq⟩⟩))
  | @loc n a hm =>
    unfold tyU at h
    dsimp only at h
    split at h
    · rename_i us hS
      obtain ⟨xs, q, rs⟩ := s.obj n a _ hm hS
      exact .inl ⟨eq_of_beq h, _, SqL.of q⟩
    · rename_i ks us hS
      obtain ⟨xs, q, l, rs⟩ := s.obj n a _ hm hS
      exact .inr (.inr (.inl ⟨eq_of_beq h, .inl ⟨_, q⟩⟩))
    · cases h
  | _ => cases h
def MtSim (X : Cx) (id : String) (g : U → List U → Sto → R U) : Prop := ∃ r, MtR X id r ∧ (∀ u us S, noX (g u us S)) ∧
  ∀ (w : Wd) (u : U) (us : List U) (v : V) (vs : List V) (Q : VK), SR X.K w → VR X.K w u v → VRs X.K w us vs → Pst (g u us w.S) (OkE X w Q) (fun _ _ => False) → r v vs w.H Q
def fM (T : String) (g : U → List U → Sto → R U) (fo : FE) (fa : FA) : FE := fun d S => (fo d S).bind fun u S1 => guard (tyU T u S1) ((fa d S1).bind fun us S2 => g u us S2)
theorem se_bm {name : Str} {g : U → List U → Sto → R U} (pa : PlainAttrs T) (slot : Slot T name id) (hty : typeOf (.builtin id) = pure (.type "method_descriptor")) (hm : MtSim X id g) (ho : SimE X Wx o fo) (ha : SimA X Wx (e :: es) fa)
    (hbase : attributeBase o name X.env (eval o X.env) = eval o X.env := by rfl)
    (hfew : ((backTo cpos (starEach (e :: es) X.env)).all (fun x => !x.1) && (backToKw cpos (keywordEach [] X.env)).all (fun x => x.1.isSome)
      && decide ((e :: es).length + ([] : List Keyword).length + (if ([] : List Keyword).isEmpty then 0 else 1) < 30)) = true := by rfl)
    (hline : (apos.endLine == cpos.line) = true := by rfl) (hs : starEach (e :: es) X.env = (false, eval e X.env) :: starEach es X.env := by rfl) (hplain : (backTo cpos (starEach es X.env)).any (·.1) = false := by rfl) :
    SimE X Wx (.Call (.Attribute o name apos) (e :: es) [] cpos) (fM T g fo fa) := by
  obtain ⟨r, hm, hx, hr⟩ := hm
  obtain ⟨to, po, ho⟩ := ho.out
  obtain ⟨ta, pa', ha⟩ := ha.out
  refine SimE.mk (pe_bm pa slot hty hm po pa' hbase hfew hline hs hplain) (fun w d σ Q s e h => ?_)
  refine ho w d σ _ s e ((Pst.of_bind h).mono (fun u S1 h1 w1 v eS st s1 ru => ?_) fun _ _ q => q)
  subst eS
  obtain ⟨ht, h1⟩ := guard_post h1
  refine ⟨tyU_ok s1 ru ht, ?_⟩
  refine ha w1 d σ _ s1 (e.ext st.x s) ((Pst.of_bind h1).mono (fun us S2 h2 w2 vs eS st2 s2 rs => ?_) fun _ _ q => q.up st)
  subst eS
  exact hr w2 u us v vs Q s2 (ru.ext st2.x s1) rs ((pst_noX h2 (hx u us w2.S)).mono (fun _ _ q => q.up (st.trans st2)) fun _ _ q => q)
theorem se_bm0 {name : Str} {g : U → List U → Sto → R U} (pa : PlainAttrs T) (slot : Slot T name id) (hty : typeOf (.builtin id) = pure (.type "method_descriptor")) (hm : MtSim X id g) (ho : SimE X Wx o fo)
    (hbase : attributeBase o name X.env (eval o X.env) = eval o X.env := by rfl) (hline : (apos.endLine == cpos.line) = true := by rfl) :
    SimE X Wx (.Call (.Attribute o name apos) [] [] cpos) (fM T g fo aNil) := by
  obtain ⟨r, hm, hx, hr⟩ := hm
  obtain ⟨to, po, ho⟩ := ho.out
  refine SimE.mk (pe_bm0 pa slot hty hm po hbase hline) (fun w d σ Q s e h => ?_)
  refine ho w d σ _ s e ((Pst.of_bind h).mono (fun u S1 h1 w1 v eS st s1 ru => ?_) fun _ _ q => q)
  subst eS
  obtain ⟨ht, h1⟩ := guard_post h1
  exact ⟨tyU_ok s1 ru ht, hr w1 u [] v [] Q s1 ru .nil ((pst_noX h1 (hx u [] w1.S)).mono (fun _ _ q => q.up st) fun _ _ q => q)⟩
end
end DL

set_option Elab.async false
set_option linter.all false
set_option maxRecDepth 100000
namespace DL
open PySem PySem.Spec L2
section
variable {X : Cx} {Wx : WX}

/-! ### len, isinstance, min, max, int, sum, all, any, list, tuple -/
def lenU (u : U) (S : Sto) : Option Nat := match u with
  | .str z => if z.length ≤ sizeLine then some z.length else none
  | .tup us => some us.length
  | u => match listOf u S with
    | some us => some us.length
    | none => (dictOf u S).map fun p => p.1.length
def lenC (us : List U) (S : Sto) : R U := match us with
  | [u] => match lenU u S with
    | some n => .ok (.int n) S
    | none => .bad
  | _ => .bad
theorem zip_len {K : PySem.W.Frag} {w : Wd} {ks : List Key} {us : List U} {xs : List V} (l : ks.length = us.length) (r : VRs K w us xs) : (ks.zip xs).length = ks.length := by
  rw [List.length_zip, ← r.length, ← l, Nat.min_self]
theorem cs_len : CallSim X (.builtin "len") lenC := by
  refine ⟨_, call_len.or call_lenD, fun us S => by unfold lenC; split <;> first | trivial | (split <;> trivial), fun w us vs Q s rs h => ?_⟩
  unfold lenC at h
  split at h
  · rename_i u
    cases rs with
    | cons r rs =>
      cases rs
      split at h
      · rename_i n hn
        have q := OkE.here h s (.int n)
        unfold lenU at hn
        split at hn
        · split at hn
          · rename_i hl
            cases hn; cases r
            exact .inl ⟨_, _, rfl, ⟨hl, rfl⟩, q⟩
          · cases hn
        · cases hn
          cases r with
          | tup hq rs => exact .inl ⟨_, _, rfl, .inr ⟨_, hq.sq, rs.length⟩, q⟩
        · split at hn
          · rename_i us hl
            cases hn
            obtain ⟨a, xs, rfl, hq, rs⟩ := listOf_ok s r hl
            exact .inl ⟨_, _, rfl, .inl ⟨_, hq, rs.length⟩, q⟩
          · cases hd : dictOf u w.S with
            | none => rw [hd] at hn; cases hn
            | some p =>
              obtain ⟨ks, us⟩ := p
              rw [hd] at hn
              cases hn
              obtain ⟨a, xs, rfl, hq, l, rs⟩ := dictOf_ok s r hd
              refine .inr ⟨a, _, rfl, hq, ?_⟩
              rw [zip_len l rs]
              exact q
      · exact h.elim
  · exact h.elim
def tyName (u : U) (S : Sto) : Option String := match u with
  | .non => some "NoneType"
  | .bl _ => some "bool"
  | .int _ => some "int"
  | .str _ => some "str"
  | .tup _ => some "tuple"
  | .lst _ => some "list"
  | .frz _ => some "list"
  | .dic _ _ => some "dict"
  | .loc n => match S[n]? with
    | some (.lst _) => some "list"
    | some (.dic _ _) => some "dict"
    | _ => none
  | .ty _ => none
theorem tyName_ok {w : Wd} {u : U} {v : V} {t : String} (s : SR X.K w) (r : VR X.K w u v) (h : tyName u w.S = some t) : TyX X.K w.H v (.type t) := by
  cases r with
  | non => cases h; exact .base .non
  | bl b => cases h; exact .base (.bl b)
  | int i => cases h; exact .base (.int i)
  | str x => cases h; exact .base (.str x)
  | tup hq rs =>
    cases h
    rcases hq with q | ⟨o, its, n, h1, h2, _⟩
    · exact .base (.tup q)
    · exact .kTuple h1 h2
  | lst hq n rs => cases h; exact .base (.lst hq)
  | frz hq rs =>
    cases h
    rcases hq with ⟨o, q⟩ | ⟨o, its, n, h1, h2, _⟩
    · exact .base (.frz q)
    · exact .kList h1 h2
  | dic hq n l rs => cases h; exact .base (.dK hq)
  | @loc n a hm =>
    unfold tyName at h
    dsimp only at h
    split at h
    · rename_i us hS
      cases h
      obtain ⟨xs, q, rs⟩ := s.obj n a _ hm hS
      exact .base (.lst q)
    · rename_i ks us hS
      cases h
      obtain ⟨xs, q, l, rs⟩ := s.obj n a _ hm hS
      exact .base (.dK q)
    · cases h
  | ty n => cases h
/-- isinstance of built-in kinds -/
def isK (a b : String) : Bool := a == b || (a == "bool" && b == "int")
def kinds : List String := ["NoneType", "bool", "int", "str", "tuple", "list", "dict"]
def asked : List String := ["bool", "int", "str", "tuple", "list", "dict"]
theorem kit_all : (kinds.all fun a => asked.all fun b => decide (kitB a b = some (isK a b))) = true := by decide +kernel
theorem kit_isK {a b : String} (ha : a ∈ kinds) (hb : b ∈ asked) : kitB a b = some (isK a b) := by
  have h := List.all_eq_true.mp kit_all a ha
  exact of_decide_eq_true (List.all_eq_true.mp h b hb)
theorem tyName_kinds {u : U} {S : Sto} {t : String} (h : tyName u S = some t) : t ∈ kinds := by
  unfold tyName at h
  split at h
  all_goals first
    | (cases h; decide)
    | (split at h <;> first | (cases h; decide) | cases h)
    | cases h
def isiC (us : List U) (S : Sto) : R U := match us with
  | [u, .ty b] => match tyName u S with
    | some a => guard (asked.contains b) (.ok (.bl (isK a b)) S)
    | none => .bad
  | [u, .tup [.ty b, .ty c]] => match tyName u S with
    | some a => guard (asked.contains b && asked.contains c) (.ok (.bl (isK a b || isK a c)) S)
    | none => .bad
  | _ => .bad
theorem noX_isi (us : List U) (S : Sto) : noX (isiC us S) := by
  unfold isiC
  split
  · split <;> first | trivial | exact noX_guard trivial
  · split <;> first | trivial | exact noX_guard trivial
  · trivial
theorem cs_isi : CallSim X (.builtin "isinstance") isiC := by
  refine ⟨_, call_isi.or (call_isiT.or call_isiK), noX_isi, fun w us vs Q s rs h => ?_⟩
  unfold isiC at h
  split at h
  · rename_i u b
    split at h
    · rename_i a ha
      obtain ⟨hb, h⟩ := guard_post h
      have hb' : b ∈ asked := List.contains_iff_mem.mp hb
      cases rs with
      | cons r rs =>
        cases rs with
        | cons r2 rs =>
          cases rs
          cases r2
          exact .inl ⟨_, _, _, _, _, rfl, .ty b, tyName_ok s r ha, kit_ty (kit_isK (tyName_kinds ha) hb'), OkE.here h s (.bl _)⟩
    · exact h.elim
  · rename_i u b c
    split at h
    · rename_i a ha
      obtain ⟨hb, h⟩ := guard_post h
      rw [Bool.and_eq_true] at hb
      have hb' : b ∈ asked := List.contains_iff_mem.mp hb.1
      have hc' : c ∈ asked := List.contains_iff_mem.mp hb.2
      have hk := tyName_kinds ha
      have kk : ∀ K, PySem.W.kitAny K (.type a) [.type b, .type c] = some (isK a b || isK a c) := fun K => by
        refine kitAny_cons (kit_ty (kit_isK hk hb')) (fun e => ?_) (fun e => by rw [e]; rfl)
        rw [e, Bool.false_or]
        exact kitAny_cons (kit_ty (kit_isK hk hc')) (fun e => by rw [e]; exact kitAny_nil) (fun e => e)
      cases rs with
      | cons r rs =>
        cases rs with
        | cons r2 rs =>
          cases rs
          cases r2 with
          | @tup tp xs _ hq rs2 =>
            cases rs2 with
            | cons q1 rs2 =>
              cases rs2 with
              | cons q2 rs2 =>
                cases rs2
                cases q1
                cases q2
                rcases hq with q | ⟨o, its, n, h1, h2, h3, h4, h5⟩
                · exact .inr (.inl ⟨_, tp, _, _, _, _, rfl, q, .cons (.ty b) (.cons (.ty c) .nil), tyName_ok s r ha, kk _, OkE.here h s (.bl _)⟩)
                · obtain ⟨oc, od, dt, sl⟩ := o
                  simp only at h2 h3
                  subst h2 h3
                  have e5 : its.toList = [.type b, .type c] := ClsV.all (.cons (.ty b) (.cons (.ty c) .nil)) h5
                  have e6 : its = ([.type b, .type c] : List Value).toArray := by rw [← e5]
                  subst e6
                  exact .inr (.inr ⟨_, tp, od, _, n, sl, _, _, rfl, h1, tyName_ok s r ha, kk _, OkE.here h s (.bl _)⟩)
    · exact h.elim
  · exact h.elim
def minC (us : List U) (S : Sto) : R U := match us with
  | [.int i, .int j] => .ok (.int (if j < i then j else i)) S
  | _ => .bad
def maxC (us : List U) (S : Sto) : R U := match us with
  | [.int i, .int j] => .ok (.int (if j > i then j else i)) S
  | _ => .bad
def intC (us : List U) (S : Sto) : R U := match us with
  | [.int i] => .ok (.int i) S
  | [.bl b] => .ok (.int (if b then 1 else 0)) S
  | _ => .bad
theorem cs_min (hc : X.calm = true) : CallSim X (.builtin "min") minC := by
  refine ⟨_, call_min2 hc, fun us S => by unfold minC; split <;> trivial, fun w us vs Q s rs h => ?_⟩
  unfold minC at h
  split at h
  · cases rs with
    | cons r rs =>
      cases rs with
      | cons r2 rs =>
        cases rs; cases r; cases r2
        exact ⟨_, _, rfl, OkE.here h s (.int _)⟩
  · exact h.elim
theorem cs_max (hc : X.calm = true) : CallSim X (.builtin "max") maxC := by
  refine ⟨_, call_max2 hc, fun us S => by unfold maxC; split <;> trivial, fun w us vs Q s rs h => ?_⟩
  unfold maxC at h
  split at h
  · cases rs with
    | cons r rs =>
      cases rs with
      | cons r2 rs =>
        cases rs; cases r; cases r2
        exact ⟨_, _, rfl, OkE.here h s (.int _)⟩
  · exact h.elim
theorem cs_int : CallSim X (.type "int") intC := by
  refine ⟨_, call_int1, fun us S => by unfold intC; split <;> trivial, fun w us vs Q s rs h => ?_⟩
  unfold intC at h
  split at h
  · cases rs with
    | cons r rs => cases rs; cases r; exact .inl ⟨_, rfl, OkE.here h s (.int _)⟩
  · cases rs with
    | cons r rs => cases rs; cases r; exact .inr ⟨_, rfl, OkE.here h s (.int _)⟩
  · exact h.elim
def boolsOf : List U → Option (List Bool)
  | [] => some []
  | .bl b :: us => (boolsOf us).map (b :: ·)
  | _ => none
def intsOf : List U → Option (List Int)
  | [] => some []
  | .int i :: us => (intsOf us).map (i :: ·)
  | _ => none
def strsOf : List U → Option (List Str)
  | [] => some []
  | .str i :: us => (strsOf us).map (i :: ·)
  | _ => none
theorem boolsOf_ok {K : PySem.W.Frag} {w : Wd} : ∀ {us : List U} {vs : List V} {bs : List Bool}, VRs K w us vs → boolsOf us = some bs → vs = bs.map V.bl
  | _, _, _, .nil, h => by cases h; rfl
  | _, _, _, .cons (us := us) r rs, h => by
    cases r with
    | bl b =>
      unfold boolsOf at h
      cases e : boolsOf us with
      | none => rw [e] at h; cases h
      | some bs => rw [e] at h; cases h; rw [boolsOf_ok rs e]; rfl
    | _ => unfold boolsOf at h; cases h
theorem intsOf_ok {K : PySem.W.Frag} {w : Wd} : ∀ {us : List U} {vs : List V} {bs : List Int}, VRs K w us vs → intsOf us = some bs → vs = bs.map V.int
  | _, _, _, .nil, h => by cases h; rfl
  | _, _, _, .cons (us := us) r rs, h => by
    cases r with
    | int b =>
      unfold intsOf at h
      cases e : intsOf us with
      | none => rw [e] at h; cases h
      | some bs => rw [e] at h; cases h; rw [intsOf_ok rs e]; rfl
    | _ => unfold intsOf at h; cases h
theorem strsOf_ok {K : PySem.W.Frag} {w : Wd} : ∀ {us : List U} {vs : List V} {bs : List Str}, VRs K w us vs → strsOf us = some bs → vs = bs.map V.str
  | _, _, _, .nil, h => by cases h; rfl
  | _, _, _, .cons (us := us) r rs, h => by
    cases r with
    | str b =>
      unfold strsOf at h
      cases e : strsOf us with
      | none => rw [e] at h; cases h
      | some bs => rw [e] at h; cases h; rw [strsOf_ok rs e]; rfl
    | _ => unfold strsOf at h; cases h
def overL {α : Type} (p : List U → Option α) (k : α → U) (us : List U) (S : Sto) : R U := match us with
  | [u] => match listOf u S with
    | some xs => match p xs with
      | some a => .ok (k a) S
      | none => .bad
    | none => .bad
  | _ => .bad
theorem noX_over {α : Type} (p : List U → Option α) (k : α → U) (us : List U) (S : Sto) : noX (overL p k us S) := by
  unfold overL
  split
  · split
    · split <;> trivial
    · trivial
  · trivial
theorem over_ok {α : Type} {p : List U → Option α} {k : α → U} {w : Wd} {us : List U} {vs : List V} {Q : VK} {E : Exc → Sto → Prop} (s : SR X.K w) (rs : VRs X.K w us vs) (h : Pst (overL p k us w.S) (OkE X w Q) E) (hE : ∀ x S, ¬ E x S) :
    ∃ a xs ys b, vs = [.ref a] ∧ SqL X.K w.H a ys ∧ VRs X.K w xs ys ∧ p xs = some b ∧ OkE X w Q (k b) w.S := by
  unfold overL at h
  split at h
  · cases rs with
    | cons r rs =>
      cases rs
      split at h
      · rename_i xs hl
        split at h
        · rename_i b hb
          obtain ⟨a, ys, rfl, hq, q⟩ := listOf_ok s r hl
          exact ⟨a, xs, ys, b, rfl, hq, q, hb, h⟩
        · exact h.elim
      · exact h.elim
  · exact h.elim
abbrev sumC := overL intsOf fun ns => .int ns.sum
abbrev allC := overL boolsOf fun bs => .bl (bs.all id)
abbrev anyC := overL boolsOf fun bs => .bl (bs.any id)
theorem cs_sum (hc : X.calm = true) : CallSim X (.builtin "sum") sumC := by
  refine ⟨_, cr_sum hc, noX_over _ _, fun w us vs Q s rs h => ?_⟩
  obtain ⟨a, xs, ys, b, rfl, hq, r, e, q⟩ := over_ok s rs h fun _ _ z => z
  rw [intsOf_ok r e] at hq
  exact ⟨a, b, rfl, hq, OkE.here q s (.int _)⟩
theorem cs_all (hc : X.calm = true) : CallSim X (.builtin "all") allC := by
  refine ⟨_, cr_all hc, noX_over _ _, fun w us vs Q s rs h => ?_⟩
  obtain ⟨a, xs, ys, b, rfl, hq, r, e, q⟩ := over_ok s rs h fun _ _ z => z
  rw [boolsOf_ok r e] at hq
  exact ⟨a, b, rfl, hq, OkE.here q s (.bl _)⟩
theorem cs_any (hc : X.calm = true) : CallSim X (.builtin "any") anyC := by
  refine ⟨_, cr_any hc, noX_over _ _, fun w us vs Q s rs h => ?_⟩
  obtain ⟨a, xs, ys, b, rfl, hq, r, e, q⟩ := over_ok s rs h fun _ _ z => z
  rw [boolsOf_ok r e] at hq
  exact ⟨a, b, rfl, hq, OkE.here q s (.bl _)⟩
/-- items of a list or a tuple -/
def seqOf (u : U) (S : Sto) : Option (List U) := match u with
  | .tup us => some us
  | u => listOf u S
theorem seqOf_ok {w : Wd} {u : U} {v : V} {us : List U} (s : SR X.K w) (r : VR X.K w u v) (h : seqOf u w.S = some us) : ∃ a xs, v = .ref a ∧ (SqL X.K w.H a xs ∨ SqT X.K w.H a xs) ∧ VRs X.K w us xs := by
  unfold seqOf at h
  split at h
  · cases h
    cases r with
    | tup hq rs => exact ⟨_, _, rfl, .inr hq.sq, rs⟩
  · obtain ⟨a, xs, e, q, rs⟩ := listOf_ok s r h
    exact ⟨a, xs, e, .inl q, rs⟩
def listC (us : List U) (S : Sto) : R (List U) := match us with
  | [u] => match seqOf u S with
    | some xs => .ok xs S
    | none => .bad
  | _ => .bad
theorem cl_list : CallSimL X (.type "list") listC := by
  refine ⟨_, call_list_of, fun w us vs Q E s rs h => ?_⟩
  unfold listC at h
  split at h
  · cases rs with
    | cons r rs =>
      cases rs
      split at h
      · rename_i xs hl
        obtain ⟨a, ys, rfl, hq, q⟩ := seqOf_ok s r hl
        exact ⟨a, ys, rfl, hq, fun l hl => h w l ys rfl (Stp.refl w) s q hl⟩
      · exact h.elim
  · exact h.elim
def tupleC (us : List U) (S : Sto) : R U := match us with
  | [u] => match seqOf u S with
    | some xs => .ok (.tup xs) S
    | none => .bad
  | _ => .bad
theorem cs_tuple : CallSim X (.type "tuple") tupleC := by
  refine ⟨_, call_tuple_of, fun us S => by unfold tupleC; split <;> first | trivial | (split <;> trivial), fun w us vs Q s rs h => ?_⟩
  unfold tupleC at h
  split at h
  · cases rs with
    | cons r rs =>
      cases rs
      split at h
      · rename_i xs hl
        unfold seqOf at hl
        split at hl
        · cases hl
          cases r with
          | tup hq rs => exact ⟨_, _, rfl, .inr ⟨hq.sq, OkE.here h s (.tup hq rs)⟩⟩
        · obtain ⟨a, ys, rfl, hq, q⟩ := listOf_ok s r hl
          refine ⟨a, ys, rfl, .inl ⟨hq, fun l hl => ?_⟩⟩
          have st := Stp.new s (o := .tup ys) hl
          exact h (w.new l _) (.ref l) rfl st (s.new hl) (.tup (TqT.of upd_same) (q.ext st.x s))
      · exact h.elim
  · exact h.elim

/-! ### methods -/
def appM (u : U) (us : List U) (S : Sto) : R U := match u, us with
  | .loc n, [y] => match S[n]? with
    | some (.lst xs) => guard (decide (xs.length < sizeLine)) (.ok .non (S.set n (.lst (xs ++ [y]))))
    | _ => .bad
  | _, _ => .bad
theorem ms_append : MtSim X "list.append" appM := by
  refine ⟨_, mt_append, fun u us S => by unfold appM; split <;> first | trivial | (split <;> first | trivial | exact noX_guard trivial), fun w u us v vs Q s r rs h => ?_⟩
  unfold appM at h
  split at h
  · rename_i n y
    split at h
    · rename_i xs hS
      obtain ⟨hl, h⟩ := guard_post h
      cases r with
      | @loc _ a hm =>
        cases rs with
        | cons ry rs =>
          cases rs
          obtain ⟨ys, q, r2⟩ := s.obj n a _ hm hS
          rename_i vy
          refine ⟨a, ys, vy, rfl, rfl, q, by rw [← r2.length]; exact of_decide_eq_true hl, ?_⟩
          have st : Stp w (w.put n a (.lst (ys ++ [vy])) (.lst (xs ++ [y]))) := Stp.put s hm hS (by intro z; cases z)
          exact h _ .non rfl st (s.put hm hS (by intro z; cases z) ⟨_, upd_same, (r2.snoc ry).ext st.x s⟩) .non
    · exact h.elim
  · exact h.elim
def splitM (u : U) (us : List U) (S : Sto) : R U := match u, us with
  | .str a, [.str b] => guard (!(b.length == 0) && decide (a.length + 2 ≤ sizeLine)) (.ok (.lst ((Txt.split a b).map .str)) S)
  | _, _ => .bad
theorem strs_rel {K : PySem.W.Frag} {w : Wd} : ∀ ys : List Str, VRs K w (ys.map .str) (ys.map V.str)
  | [] => .nil
  | y :: ys => .cons (.str y) (strs_rel ys)
theorem new_strs {w : Wd} {Q : VK} {ys : List Str} (s : SR X.K w) (h : OkE X w Q (.lst (ys.map .str)) w.S) : rNewStrs ys w.H Q := fun p hp => by
  have st := Stp.new s (o := .lst (ys.map V.str)) hp
  exact h (w.new p _) (.ref p) rfl st (s.new hp) (.lst upd_same (fun q => s.tracked q hp) (strs_rel ys))
theorem ms_split : MtSim X "str.split" splitM := by
  refine ⟨_, mt_split, fun u us S => by unfold splitM; split <;> first | trivial | exact noX_guard trivial, fun w u us v vs Q s r rs h => ?_⟩
  unfold splitM at h
  split at h
  · obtain ⟨hl, h⟩ := guard_post h
    rw [Bool.and_eq_true, Bool.not_eq_true'] at hl
    cases r
    cases rs with
    | cons r2 rs =>
      cases rs; cases r2
      exact ⟨_, _, rfl, rfl, hl.1, of_decide_eq_true hl.2, new_strs s h⟩
  · exact h.elim
def joinM (u : U) (us : List U) (S : Sto) : R U := match u, us with
  | .str a, [l] => match seqOf l S with
    | some xs => match strsOf xs with
      | some ys => guard (decide ((ys.map (·.length)).sum + ys.length * a.length ≤ 16777216)) (.ok (.str (Txt.join a ys)) S)
      | none => .bad
    | none => .bad
  | _, _ => .bad
theorem ms_join : MtSim X "str.join" joinM := by
  refine ⟨_, mt_join, fun u us S => by unfold joinM; split <;> first | trivial | (split <;> first | trivial | (split <;> first | trivial | exact noX_guard trivial)), fun w u us v vs Q s r rs h => ?_⟩
  unfold joinM at h
  split at h
  · split at h
    · rename_i xs hx
      split at h
      · rename_i ys hy
        obtain ⟨hl, h⟩ := guard_post h
        cases r
        cases rs with
        | cons r2 rs =>
          cases rs
          obtain ⟨p, zs, rfl, hq, q⟩ := seqOf_ok s r2 hx
          have e := strsOf_ok q hy
          subst e
          exact ⟨_, p, ys, rfl, rfl, hq, of_decide_eq_true hl, OkE.here h s (.str _)⟩
      · exact h.elim
    · exact h.elim
  · exact h.elim
def getM (u : U) (us : List U) (S : Sto) : R U := match dictOf u S, us with
  | some (ks, xs), [k] => match keyU k with
    | some k => .ok ((valU ks xs k).getD .non) S
    | none => .bad
  | some (ks, xs), [k, z] => match keyU k with
    | some k => .ok ((valU ks xs k).getD z) S
    | none => .bad
  | _, _ => .bad
theorem mt_dget (hu : X.A.units + 1 < cLine) : MtR X "dict.get" (fun x xs H Q => (∃ a y o, x = .ref a ∧ xs = [y] ∧ DGet H a y o ∧ Q (o.getD .non) H) ∨ ∃ a y z o, x = .ref a ∧ xs = [y, z] ∧ DGet H a y o ∧ Q (o.getD z) H) := by
  intro pins s σ H x xs v us Q I rx rs h
  rcases h with ⟨a, y, o, rfl, rfl, g, q⟩ | ⟨a, y, z, o, rfl, rfl, g, q⟩
  · cases rx
    obtain ⟨u, rfl, ru⟩ := vals1 rs
    exact d_get1 hu I g ru fun w' s' I' r' => ⟨_, H, I', r', q⟩
  · cases rx
    obtain ⟨u, u2, rfl, ru, ru2⟩ := vals2 rs
    exact d_get2 hu I g ru ru2 fun w' s' I' r' => ⟨_, H, I', r', q⟩
theorem valU_getD {K : PySem.W.Frag} {w : Wd} {ks : List Key} {us : List U} {xs : List V} (k : Key) (r : VRs K w us xs) {z : U} {vz : V} (rz : VR K w z vz) : VR K w ((valU ks us k).getD z) ((valV (ks.zip xs) k).getD vz) := by
  obtain ⟨h1, h2⟩ := valU_ok (ks := ks) k r
  cases h : valU ks us k with
  | none => rw [h1 h]; exact rz
  | some u => obtain ⟨v, e, q⟩ := h2 u h; rw [e]; exact q
theorem ms_get (hu : X.A.units + 1 < cLine) : MtSim X "dict.get" getM := by
  refine ⟨_, mt_dget hu, fun u us S => by unfold getM; split <;> first | trivial | (split <;> trivial), fun w u us v vs Q s r rs h => ?_⟩
  unfold getM at h
  split at h
  · rename_i ks xs k hd
    split at h
    · rename_i k' hk
      obtain ⟨a, ys, rfl, hq, l, r2⟩ := dictOf_ok s r hd
      cases rs with
      | cons rk rs =>
        cases rs
        rw [keyU_ok rk hk]
        exact .inl ⟨a, _, _, rfl, rfl, DGet.k hq, OkE.here h s (valU_getD k' r2 .non)⟩
    · exact h.elim
  · rename_i ks xs k z hd
    split at h
    · rename_i k' hk
      obtain ⟨a, ys, rfl, hq, l, r2⟩ := dictOf_ok s r hd
      cases rs with
      | cons rk rs =>
        cases rs with
        | cons rz rs =>
          cases rs
          rw [keyU_ok rk hk]
          exact .inr ⟨a, _, _, _, rfl, rfl, DGet.k hq, OkE.here h s (valU_getD k' r2 rz)⟩
    · exact h.elim
  · exact h.elim
end
end DL

set_option Elab.async false
set_option linter.all false
set_option maxRecDepth 100000
namespace DL
open PySem PySem.Spec L2

/-! ### a def's promise -/
/-- called with us (n of them) it does g -/
def spOf (K : PySem.W.Frag) (mg : Str → Option Value) (n : Nat) (g : List U → Sto → R U) : Sp := fun vs H Q E => ∃ (w : Wd) (us : List U), w.H = H ∧ SR K w ∧ VRs K w us vs ∧ us.length = n ∧
  Pst (g us w.S) (fun u S' => ∀ (w' : Wd) (v : V), w'.S = S' → Stp w w' → SR K w' → VR K w' u v → Q v w'.H)
    (fun x S' => ∀ (w' : Wd) (cls : Value) (d : Option Addr), w'.S = S' → Stp w w' → SR K w' → XRel K mg w' x cls d → E cls d w'.H)
def endB (fl : Fl) (S : Sto) : R U := match fl with
  | .nx _ => .ok .non S
  | .rt u => .ok u S
  | .ex x _ => .exc x S
  | _ => .bad
def runB (body : FS) (d : En) (S : Sto) : R U := match body d S with
  | .ok fl S' => endB fl S'
  | _ => .bad
theorem fn_sim {P : Program} {w : World} {K : PySem.W.Frag} {mg : Str → Option Value} {base : Heap} {x qual : Str} {st : Stmt} {f : Addr} {fd : FuncData} {N ps : List Str} {k : Nat} {g : List U → Sto → R U} {body : FS}
    (F : Fun K x qual st f fd) (Sc : FnScope N ps (defScope st)) (hg : ∀ us S, us.length = ps.length → g us S = runB body (enStart N.length us) S)
    (hbody : ∀ (cdv : Value) (A : Around) (outer : List Env) (s : Shared) (H : Hp) (E : XK), Room k (A.deeper (PyProof.Rows.envOfC qual (defScope st) s.heap.objs.size f cdv)) →
      SimB (cxOf (L2.CX P w) P w K mg base N qual (defScope st) f cdv A outer s H E) (fun cls d _ H' => E cls d H') (defBody st) body) : FnOk P w K mg base (L2.CX P w) (k + 1) f fd ps (spOf K mg ps.length g) := by
  refine F.okX Sc (fun vs H Q E h => ?_) fun cdv A outer s H vs Q E hr h => ?_
  · obtain ⟨w, us, _, _, rs, l, _⟩ := h
    rw [← rs.length, l]
  · obtain ⟨w, us, e, sr, rs, l, q⟩ := h
    subst e
    obtain ⟨t, p, hb⟩ := (hbody cdv A outer s w.H E hr).out
    refine ⟨t, p, hb w (enStart N.length us) (start N vs) _ sr (ER.start rs) ?_⟩
    rw [hg us w.S l] at q
    unfold runB at q
    cases hh : body (enStart N.length us) w.S with
    | ok fl S1 =>
      rw [hh] at q
      intro w1 eS st s1
      cases fl with
      | nx d => exact fun σ' _ => q w1 .non eS st s1 .non
      | rt u => exact fun v r => q w1 v eS st s1 r
      | bk d => exact q.elim
      | ct d => exact q.elim
      | ex x d => exact fun σ' _ cls dd xr => q w1 cls dd eS st s1 xr
    | bad => rw [hh] at q; exact q.elim
    | exc y S => rw [hh] at q; exact q.elim

section
variable {X : Cx} {Wx : WX}
/-- what a callee lets out is taken -/
abbrev PasX (X : Cx) (Wx : WX) : Prop := ∀ σ, PassesAt (L2.CX X.prog X.w) X σ (fun c d H => Wx c d σ H)
theorem pas_of (tk : Takes X Wx) : PasX X Wx := fun σ => passAt tk σ
theorem pas_none : PasX X (fun _ _ _ _ => False) := fun σ => passAt takes0 σ
theorem call_core {n k : Nat} {f : Addr} {fd : FuncData} {ps : List Str} {g : List U → Sto → R U} {fa : FA} {ta : TA}
    (ha : ∀ (w : Wd) (d : En) (σ : L2.St) (Q : List V → Hp → Prop), SR X.K w → ER X.K w d σ → Pst (fa d w.S) (OkA X w Q) (XPost X Wx σ w) → ta σ w.H Q)
    (w : Wd) (d : En) (σ : L2.St) (Q : VK) (s : SR X.K w) (e : ER X.K w d σ) (h : Pst (fA (fun us S => guard (us.length == n) (g us S)) fa d w.S) (OkE X w Q) (XPost X Wx σ w)) :
    tCallSD (spOf X.K X.mg n g) [] (fun σ c d H => Wx c d σ H) ta σ w.H Q := by
  refine ha w d σ _ s e ((Pst.of_bind h).mono (fun us S1 h1 w1 vs eS st s1 rs => ?_) fun _ _ q => q)
  subst eS
  obtain ⟨hl, h1⟩ := guard_post h1
  rw [List.append_nil]
  exact ⟨w1, us, rfl, s1, rs, eq_of_beq hl, h1.mono (fun u S2 q w2 v e2 st2 s2 r2 => q w2 v e2 (st.trans st2) s2 r2) fun x S2 q w2 cls dd e2 st2 s2 xr => q w2 cls dd e2 (st.trans st2) s2 xr⟩
/-- f(..) of an own def -/
def fCall (n : Nat) (g : List U → Sto → R U) (fa : FA) : FE := fA (fun us S => guard (us.length == n) (g us S)) fa
theorem se_call {k : Nat} {f : Addr} {fd : FuncData} {ps : List Str} {n : Nat} {g : List U → Sto → R U} {x : Str} {p pos : Pos} {e : Expr} {es : List Expr} {fa : FA}
    (F : FnOk X.prog X.w X.K X.mg X.base (L2.CX X.prog X.w) k f fd ps (spOf X.K X.mg n g)) (hr : Room k X.A) (hx : PasX X Wx) (hg : Gl X x) (hm : X.mg x = some (.ref f)) (hk : PySem.W.keepIn X.K (.ref f) = true) (hb : Binds X.K fd ps []) (ha : SimA X Wx (e :: es) fa)
    (hdb : (x == ("__debug__" : Str)) = false := by decide) (he : starEach (e :: es) X.env = (false, eval e X.env) :: starEach es X.env := by rfl) (hpl : (backTo pos (starEach es X.env)).any (·.1) = false := by rfl) :
    SimE X Wx (.Call (.Name x p) (e :: es) [] pos) (fCall n g fa) := by
  obtain ⟨ta, pa, ha⟩ := ha.out
  exact SimE.mk (pe_callSD F hr hg hm hk hb .nil hx pa hdb he hpl) (fun w d σ Q s e h => call_core (k := k) (f := f) (fd := fd) (ps := ps) ha w d σ Q s e h)

/-! ### statements -/
/-- an exception of an expression leaves the statement -/
def toS {α : Type} (d : En) (r : R α) (k : α → Sto → R Fl) : R Fl := match r with
  | .ok a S => k a S
  | .exc x S => .ok (.ex x d) S
  | .bad => .bad
theorem toS_post {α : Type} {w : Wd} {d : En} {σ : L2.St} {D : Ends} {r : R α} {k : α → Sto → R Fl} (s : SR X.K w) (e : ER X.K w d σ) (h : Pst (toS d r k) (OkS X Wx w D) (fun _ _ => False)) :
    Pst r (fun a S => Pst (k a S) (OkS X Wx w D) (fun _ _ => False)) (XPost X Wx σ w) := by
  cases r with
  | ok a S => exact h
  | exc x S => exact fun w' cls dd eS st s' xr => h w' eS st s' σ (e.ext st.x s) cls dd xr
  | bad => exact h
variable {e : Expr} {st : Stmt} {rest : List Stmt} {pos : Pos}
def fNop : FS := fun d S => .ok (.nx d) S
def fExpr (f : FE) : FS := fun d S => toS d (f d S) fun _ S1 => .ok (.nx d) S1
def fRet (f : FE) : FS := fun d S => toS d (f d S) fun u S1 => .ok (.rt u) S1
def fRetN : FS := fun _ S => .ok (.rt .non) S
def fBrk : FS := fun d S => .ok (.bk d) S
def fCt : FS := fun d S => .ok (.ct d) S
theorem ss_pass : SimS X Wx (.Pass pos) fNop := SimS.mk ps_pass (fun w d σ D s e h => h w rfl (Stp.refl w) s σ e)
theorem ss_break : SimS X Wx (.Break pos) fBrk := SimS.mk ps_break (fun w d σ D s e h => h w rfl (Stp.refl w) s σ e)
theorem ss_continue : SimS X Wx (.Continue pos) fCt := SimS.mk ps_continue (fun w d σ D s e h => h w rfl (Stp.refl w) s σ e)
theorem ss_expr {f : FE} (he : SimE X Wx e f) (hs : swapsWith e none pos.line X.env = pure false := by rfl) : SimS X Wx (.Expr e pos) (fExpr f) := by
  obtain ⟨t, p, he⟩ := he.out
  refine SimS.mk (ps_expr p hs) (fun w d σ D s e h => ?_)
  exact he w d σ _ s e ((toS_post s e h).mono (fun u S1 h1 w1 v eS st s1 r => h1 w1 eS st s1 σ (e.ext st.x s)) fun _ _ q => q)
theorem ss_ret {f : FE} (he : SimE X Wx e f) : SimS X Wx (.Return (some e) pos) (fRet f) := by
  obtain ⟨t, p, he⟩ := he.out
  refine SimS.mk (ps_ret p) (fun w d σ D s e h => ?_)
  exact he w d σ _ s e ((toS_post s e h).mono (fun u S1 h1 w1 v eS st s1 r => h1 w1 eS st s1 v r) fun _ _ q => q)
theorem ss_retN : SimS X Wx (.Return none pos) fRetN := SimS.mk ps_retN (fun w d σ D s e h => h w rfl (Stp.refl w) s .non .non)
/-- name = e -/
def fSet (i : Nat) (f : FE) : FS := fun d S => toS d (f d S) fun u S1 => .ok (.nx (d.set i (some u))) S1
theorem ss_set (i : Nat) {x : Str} {f : FE} {pos' : Pos} (hN : X.N.Nodup) (hi : X.N[i]? = some x) (hx : Loc X.env.scope x) (he : SimE X Wx e f) (hs : swapsWith e (some (.Name x pos')) pos.line X.env = pure false := by rfl)
    (hf : X.fn x = true ∨ X.env.scope.names.lookup x = some .local := by first | exact .inl rfl | exact .inr rfl | assumption) : SimS X Wx (.Assign [.Name x pos'] e pos) (fSet i f) := by
  obtain ⟨t, p, he⟩ := he.out
  refine SimS.mk (ps_set hN hi hx p hs hf) (fun w d σ D s e h => ?_)
  exact he w d σ _ s e ((toS_post s e h).mono (fun u S1 h1 w1 v eS st s1 r => h1 w1 eS st s1 _ ((e.ext st.x s).set i r)) fun _ _ q => q)
/-! targets -/
def Keeps (is : List Nat) (σ σ' : L2.St) : Prop := ∀ vs : List Nat, (∀ i ∈ is, i ∈ vs) → wipe σ' vs = wipe σ vs
def tG (X : Cx) (is : List Nat) (g : U → En → Option En) : TG := fun v σ H Q => ∃ (w : Wd) (u : U) (d d' : En), w.H = H ∧ SR X.K w ∧ ER X.K w d σ ∧ VR X.K w u v ∧ g u d = some d' ∧ ∀ σ', ER X.K w d' σ' → Keeps is σ σ' → Q σ' w.H
def tGs (X : Cx) (is : List Nat) (g : List U → En → Option En) : TGs := fun vs σ H Q => ∃ (w : Wd) (us : List U) (d d' : En), w.H = H ∧ SR X.K w ∧ ER X.K w d σ ∧ VRs X.K w us vs ∧ g us d = some d' ∧ ∀ σ', ER X.K w d' σ' → Keeps is σ σ' → Q σ' w.H
/-- a target: what it does, the slots that it stores -/
def SimG (X : Cx) (tg : Expr) (is : List Nat) (g : U → En → Option En) : Prop := PG X tg (tG X is g)
def SimGs (X : Cx) (tgs : List Expr) (is : List Nat) (g : List U → En → Option En) : Prop := PGs X tgs (tGs X is g)
theorem SimG.out {tg : Expr} {is : List Nat} {g : U → En → Option En} (h : SimG X tg is g) : ∃ t, PG X tg t ∧ ∀ (w : Wd) (u : U) (v : V) (d d' : En) (σ : L2.St) (Q : L2.St → Hp → Prop), SR X.K w → ER X.K w d σ → VR X.K w u v → g u d = some d' → (∀ σ', ER X.K w d' σ' → Keeps is σ σ' → Q σ' w.H) → t v σ w.H Q :=
  ⟨_, h, fun w u v d d' σ Q s e r h q => ⟨w, u, d, d', rfl, s, e, r, h, q⟩⟩
theorem SimG.mk {tg : Expr} {is : List Nat} {g : U → En → Option En} {t : TG} (p : PG X tg t) (h : ∀ (w : Wd) (u : U) (v : V) (d d' : En) (σ : L2.St) (Q : L2.St → Hp → Prop), SR X.K w → ER X.K w d σ → VR X.K w u v → g u d = some d' → (∀ σ', ER X.K w d' σ' → Keeps is σ σ' → Q σ' w.H) → t v σ w.H Q) : SimG X tg is g :=
  ⟨fun pins s σ H v u Q I r ⟨w, y, d, d', e, sr, er, vr, hg, q⟩ => p.run pins s σ H v u Q I r (by subst e; exact h w y v d d' σ Q sr er vr hg q)⟩
theorem SimGs.out {tgs : List Expr} {is : List Nat} {g : List U → En → Option En} (h : SimGs X tgs is g) : ∃ t, PGs X tgs t ∧ ∀ (w : Wd) (us : List U) (vs : List V) (d d' : En) (σ : L2.St) (Q : L2.St → Hp → Prop), SR X.K w → ER X.K w d σ → VRs X.K w us vs → g us d = some d' → (∀ σ', ER X.K w d' σ' → Keeps is σ σ' → Q σ' w.H) → t vs σ w.H Q :=
  ⟨_, h, fun w u v d d' σ Q s e r h q => ⟨w, u, d, d', rfl, s, e, r, h, q⟩⟩
theorem SimGs.mk {tgs : List Expr} {is : List Nat} {g : List U → En → Option En} {t : TGs} (p : PGs X tgs t) (h : ∀ (w : Wd) (us : List U) (vs : List V) (d d' : En) (σ : L2.St) (Q : L2.St → Hp → Prop), SR X.K w → ER X.K w d σ → VRs X.K w us vs → g us d = some d' → (∀ σ', ER X.K w d' σ' → Keeps is σ σ' → Q σ' w.H) → t vs σ w.H Q) : SimGs X tgs is g :=
  ⟨fun pins s σ H vs us Q I r ⟨w, y, d, d', e, sr, er, vr, hg, q⟩ => p.run pins s σ H vs us Q I r (by subst e; exact h w y vs d d' σ Q sr er vr hg q)⟩
theorem wipe_get (σ : L2.St) : ∀ (vs : List Nat) (j : Nat), (wipe σ vs)[j]? = if j ∈ vs then (if j < σ.length then some none else none) else σ[j]?
  | [], j => by simp [wipe]
  | v :: vs, j => by
    unfold wipe
    by_cases e : v = j
    · subst e
      by_cases hl : v < σ.length
      · rw [List.getElem?_set_self (by rw [wipe_length]; exact hl)]; simp [hl]
      · rw [List.getElem?_eq_none (by rw [List.length_set, wipe_length]; omega)]; simp [hl]
    · rw [List.getElem?_set_ne e, wipe_get σ vs j]
      have : (j ∈ v :: vs) ↔ j ∈ vs := by simp [Ne.symm e]
      simp only [this]
theorem keeps_set {σ : L2.St} (i : Nat) (o : Option V) : Keeps [i] σ (σ.set i o) := fun vs h => by
  refine List.ext_getElem? fun j => ?_
  rw [wipe_get, wipe_get, List.length_set]
  by_cases hj : j ∈ vs
  · rw [if_pos hj, if_pos hj]
  · rw [if_neg hj, if_neg hj, List.getElem?_set_ne fun e => hj (by rw [← e]; exact h i (by simp))]
theorem Keeps.refl (σ : L2.St) : Keeps [] σ σ := fun _ _ => rfl
theorem Keeps.trans {is js : List Nat} {σ σ1 σ2 : L2.St} (a : Keeps is σ σ1) (b : Keeps js σ1 σ2) : Keeps (is ++ js) σ σ2 := fun vs h =>
  (b vs fun i hi => h i (List.mem_append_right _ hi)).trans (a vs fun i hi => h i (List.mem_append_left _ hi))
def gN (i : Nat) (u : U) (d : En) : Option En := some (d.set i (some u))
def gNil (us : List U) (d : En) : Option En := match us with
  | [] => some d
  | _ => none
def gCons (g : U → En → Option En) (r : List U → En → Option En) (us : List U) (d : En) : Option En := match us with
  | u :: us => (g u d).bind (r us)
  | [] => none
def gTup (n : Nat) (r : List U → En → Option En) (u : U) (d : En) : Option En := match u with
  | .tup us => if us.length = n then r us d else none
  | _ => none
theorem sg_name (i : Nat) {x : Str} (hN : X.N.Nodup) (hi : X.N[i]? = some x) (hx : Loc X.env.scope x) (hf : X.fn x = true ∨ X.env.scope.names.lookup x = some .local := by first | exact .inl rfl | exact .inr rfl | assumption) : SimG X (.Name x pos) [i] (gN i) :=
  SimG.mk (pg_name hN hi hx hf) fun w u v d d' σ Q s e r h q => by cases h; exact q _ (e.set i r) (keeps_set i _)
theorem sg_nil : SimGs X [] [] gNil := SimGs.mk pgs_nil fun w us vs d d' σ Q s e r h q => by
  cases r with
  | nil => cases h; exact ⟨rfl, q σ e (Keeps.refl σ)⟩
  | cons _ _ => cases h
theorem sg_cons {es : List Expr} {is js : List Nat} {g : U → En → Option En} {r : List U → En → Option En} (h1 : SimG X e is g) (h2 : SimGs X es js r) (hs : (assignEach (e :: es) X.env).map (·.2) = assign e X.env :: (assignEach es X.env).map (·.2) := by rfl) : SimGs X (e :: es) (is ++ js) (gCons g r) := by
  obtain ⟨t, p, h1⟩ := h1.out
  obtain ⟨u, q, h2⟩ := h2.out
  refine SimGs.mk (pgs_cons p q hs) fun w us vs d d' σ Q s e rs h k => ?_
  cases rs with
  | nil => cases h
  | @cons y ys v vs ry rys =>
    unfold gCons at h
    dsimp only at h
    cases h3 : g y d with
    | none => rw [h3] at h; cases h
    | some d1 =>
      rw [h3] at h
      exact ⟨v, vs, rfl, h1 w y v d d1 σ _ s e ry h3 fun σ1 e1 k1 => h2 w ys vs d1 d' σ1 Q s e1 rys h fun σ2 e2 k2 => k σ2 e2 (k1.trans k2)⟩
theorem sg_tup {es : List Expr} {k : Nat} {n : Nat} {is : List Nat} {r : List U → En → Option En} (hc : X.calm = true) (h : SimGs X es is r)
    (hn : (assignEach es X.env).length = n := by rfl) (hst : (assignEach es X.env).findIdx? (·.1) = none := by rfl) : SimG X (.Tuple es k pos) is (gTup n r) := by
  obtain ⟨t, p, h⟩ := h.out
  refine SimG.mk (pg_tup hc p hn hst) fun w u v d d' σ Q s e rv hg q => ?_
  unfold gTup at hg
  split at hg
  · split at hg
    · rename_i us hl
      cases rv with
      | tup hq rs => exact ⟨_, _, rfl, hq.sq, by rw [← rs.length]; exact hl, h w us _ d d' σ Q s e rs hg q⟩
    · cases hg
  · cases hg
def fAsg (g : U → En → Option En) (f : FE) : FS := fun d S => toS d (f d S) fun u S1 => match g u d with
  | some d' => .ok (.nx d') S1
  | none => .bad
theorem ss_asg {tg : Expr} {f : FE} {is : List Nat} {g : U → En → Option En} (he : SimE X Wx e f) (hg : SimG X tg is g) (hs : swapsWithSole [tg] e pos.line X.env = pure false := by rfl) (hw : swappedStores [tg] e X.env = pure none := by rfl)
    (h1 : (assignEach [tg] X.env).map (·.2) = [assign tg X.env] := by rfl) : SimS X Wx (.Assign [tg] e pos) (fAsg g f) := by
  obtain ⟨t, p, he⟩ := he.out
  obtain ⟨u, q, hg⟩ := hg.out
  refine SimS.mk (ps_asg p q hs hw h1) (fun w d σ D s e h => ?_)
  refine he w d σ _ s e ((toS_post s e h).mono (fun y S1 k1 w1 v eS st s1 r => ?_) fun _ _ q => q)
  split at k1
  · rename_i d' hd
    exact hg w1 y v d d' σ D.nx s1 (e.ext st.x s) r hd fun σ' e' _ => k1 w1 eS st s1 σ' e'
  · exact k1.elim
/-- x, y = a, b -/
def fPar (i j : Nat) (fa : FA) : FS := fun d S => toS d (fa d S) fun us S1 => match us with
  | [u, v] => .ok (.nx ((d.set i (some u)).set j (some v))) S1
  | _ => .bad
theorem ss_par (i j : Nat) {x y : Str} {a b : Expr} {fa : FA} {px py pt : Pos} {kt k2 pt2} (hc : X.calm = true) (hN : X.N.Nodup) (hi : X.N[i]? = some x) (hj : X.N[j]? = some y) (hij : i ≠ j)
    (hx : X.env.scope.names.lookup x = some .local) (hy : X.env.scope.names.lookup y = some .local) (ha : SimA X Wx [a, b] fa)
    (hw : swappedStores [.Tuple [.Name x px, .Name y py] kt pt] (.Tuple [a, b] k2 pt2) X.env = pure (some [x, y]))
    (hs : swapsWithSole [.Tuple [.Name x px, .Name y py] kt pt] (.Tuple [a, b] k2 pt2) pos.line X.env = pure false := by rfl) :
    SimS X Wx (.Assign [.Tuple [.Name x px, .Name y py] kt pt] (.Tuple [a, b] k2 pt2) pos) (fPar i j fa) := by
  obtain ⟨t, p, ha⟩ := ha.out
  refine SimS.mk (ps_par hc hN hi hj hij hx hy p hw hs) (fun w d σ D s e h => ?_)
  refine ha w d σ _ s e ((toS_post s e h).mono (fun us S1 k1 w1 vs eS st s1 rs => ?_) fun _ _ q => q)
  split at k1
  · cases rs with
    | cons r1 rs =>
      cases rs with
      | cons r2 rs =>
        cases rs
        exact ⟨_, _, rfl, k1 w1 eS st s1 _ (((e.ext st.x s).set i r1).set j r2)⟩
  · exact k1.elim
/-! blocks, if -/
def fSeq (f g : FS) : FS := fun d S => match f d S with
  | .ok (.nx d1) S1 => g d1 S1
  | r => r
theorem sb_nil : SimB X Wx [] fNop := SimB.mk pss_nil (fun w d σ D s e h => h w rfl (Stp.refl w) s σ e)
theorem sb_one {f : FS} (h : SimS X Wx st f) : SimB X Wx [st] f := by
  obtain ⟨t, p, h⟩ := h.out
  exact SimB.mk (pss_one p) h
theorem sb_cons {f g : FS} (h1 : SimS X Wx st f) (h2 : SimB X Wx rest g) : SimB X Wx (st :: rest) (fSeq f g) := by
  obtain ⟨t, p, h1⟩ := h1.out
  obtain ⟨u, q, h2⟩ := h2.out
  refine SimB.mk (pss_cons p q) (fun w d σ D s e h => h1 w d σ _ s e ?_)
  unfold fSeq at h
  cases hf : f d w.S with
  | ok fl S1 =>
    rw [hf] at h
    cases fl with
    | nx d1 =>
      intro w1 eS st s1 σ1 e1
      subst eS
      exact h2 w1 d1 σ1 D s1 e1 (Pst.mono h (fun _ _ q => q.up st) fun _ _ q => q)
    | rt u => exact h
    | bk d1 => exact h
    | ct d1 => exact h
    | ex x d1 => exact h
  | exc x S => rw [hf] at h; exact h
  | bad => rw [hf] at h; exact h
def fIfS (c : FT) (f g : FS) : FS := fun d S => toS d (c d S) fun b S1 => if b then f d S1 else g d S1
theorem ss_if {c : Expr} {a b : List Stmt} {fc : FT} {f g : FS} (hc : SimT X Wx c fc) (ha : SimB X Wx a f) (hb : SimB X Wx b g) : SimS X Wx (.If c a b pos) (fIfS fc f g) := by
  obtain ⟨tc, pc, hc⟩ := hc.out
  obtain ⟨ta, pa, ha⟩ := ha.out
  obtain ⟨tb, pb, hb⟩ := hb.out
  refine SimS.mk (ps_if pc pa pb) (fun w d σ D s e h => ?_)
  refine hc w d σ _ s e ((toS_post s e h).mono (fun k S1 h1 w1 eS st s1 => ?_) fun _ _ q => q)
  subst eS
  cases k with
  | true => exact ha w1 d σ D s1 (e.ext st.x s) (Pst.mono h1 (fun _ _ q => q.up st) fun _ _ q => q)
  | false => exact hb w1 d σ D s1 (e.ext st.x s) (Pst.mono h1 (fun _ _ q => q.up st) fun _ _ q => q)

/-! ### what is walked -/
def ItSim (K : PySem.W.Frag) (w : Wd) (J : It) (us : List U) : Prop := ∀ (w' : Wd) (i : Nat), Ext w w' → SR K w' →
  (∀ u, us[i]? = some u → J.go i w'.H ∧ ∀ x H', J.yld i w'.H x H' → ∃ w'' : Wd, w''.H = H' ∧ w''.S = w'.S ∧ Stp w' w'' ∧ SR K w'' ∧ VR K w'' u x) ∧ (us.length ≤ i → J.stop i w'.H)
def OkI (X : Cx) (w : Wd) (Q : It → Hp → Prop) (us : List U) (S' : Sto) : Prop := ∀ (w' : Wd) (J : It), w'.S = S' → Stp w w' → SR X.K w' → ItSim X.K w' J us → Q J w'.H
def SimI (X : Cx) (Wx : WX) (tg iter : Expr) (f : FA) : Prop := ∃ t, PI X tg iter t ∧ ∀ (w : Wd) (d : En) (σ : L2.St) (Q : It → Hp → Prop), SR X.K w → ER X.K w d σ → Pst (f d w.S) (OkI X w Q) (XPost X Wx σ w) → t σ w.H Q
theorem ItSim.same {K : PySem.W.Frag} {w : Wd} {J : It} {us : List U} (h : ∀ (w' : Wd) (i : Nat), Ext w w' → SR K w' → (∀ u, us[i]? = some u → J.go i w'.H ∧ ∀ x H', J.yld i w'.H x H' → H' = w'.H ∧ VR K w' u x) ∧ (us.length ≤ i → J.stop i w'.H)) : ItSim K w J us := fun w' i x s => by
  obtain ⟨h1, h2⟩ := h w' i x s
  refine ⟨fun u hu => ?_, h2⟩
  obtain ⟨h3, h4⟩ := h1 u hu
  refine ⟨h3, fun y H' q => ?_⟩
  obtain ⟨e, r⟩ := h4 y H' q
  exact ⟨w', e.symm, rfl, Stp.refl w', s, r⟩
variable {tg iter : Expr}
def aOver (p : U → Option (List U)) (f : FE) : FA := fun d S => (f d S).bind fun u S1 => match p u with
  | some us => .ok us S1
  | none => .bad
/-- lists that nobody changes -/
def lstV : U → Option (List U)
  | .lst us => some us
  | .frz us => some us
  | _ => none
def tupV : U → Option (List U)
  | .tup us => some us
  | _ => none
def strV : U → Option (List U)
  | .str z => some (z.cps.toList.map fun c => .str ⟨#[c]⟩)
  | _ => none
theorem lstV_ok {K : PySem.W.Frag} {w : Wd} {u : U} {v : V} {us : List U} (r : VR K w u v) (h : lstV u = some us) : ∃ a, v = .ref a ∧ ∀ w', Ext w w' → SR K w → ∃ xs, SqL K w'.H a xs ∧ VRs K w' us xs := by
  cases r with
  | @lst a xs _ hq n rs => cases h; exact ⟨a, rfl, fun w' x s => ⟨xs, SqL.of (x.keep _ _ hq n), rs.ext x s⟩⟩
  | @frz a xs _ hq rs => cases h; exact ⟨a, rfl, fun w' x s => ⟨xs, (x.fz s hq).sq, rs.ext x s⟩⟩
  | _ => cases h
theorem sqL_same {K : PySem.W.Frag} {H : Hp} {a : Addr} {xs : List V} {i : Nat} {x : V} (hq : SqL K H a xs) (y : ∀ ys, SqL K H a ys → ys[i]? = some x) : xs[i]? = some x := y xs hq
theorem si_list {f : FE} (h : SimE X Wx iter f) : SimI X Wx tg iter (aOver lstV f) := by
  obtain ⟨t, p, h⟩ := h.out
  refine ⟨_, pi_list p, fun w d σ Q s e h0 => ?_⟩
  refine h w d σ _ s e ((Pst.of_bind h0).mono (fun u S1 h1 w1 v eS st s1 r => ?_) fun _ _ q => q)
  split at h1
  · rename_i us hu
    obtain ⟨a, rfl, hk⟩ := lstV_ok r hu
    obtain ⟨xs, hq, rs⟩ := hk w1 (Ext.refl w1) s1
    refine ⟨a, rfl, ⟨xs, hq⟩, h1 w1 _ eS st s1 (ItSim.same fun w' i x s' => ?_)⟩
    obtain ⟨ys, hq', rs'⟩ := hk w' x s1
    refine ⟨fun u hi => ?_, fun hi => ⟨ys, hq', by rw [← rs'.length]; exact hi⟩⟩
    obtain ⟨y, hy, ry⟩ := rs'.get hi
    refine ⟨⟨ys, y, hq', hy⟩, fun z H' q => ⟨q.1, ?_⟩⟩
    have e2 := q.2 ys hq'
    rw [hy] at e2
    cases e2
    exact ry
  · exact h1.elim
theorem si_tup {f : FE} (h : SimE X Wx iter f) : SimI X Wx tg iter (aOver tupV f) := by
  obtain ⟨t, p, h⟩ := h.out
  refine ⟨_, pi_tup p, fun w d σ Q s e h0 => ?_⟩
  refine h w d σ _ s e ((Pst.of_bind h0).mono (fun u S1 h1 w1 v eS st s1 r => ?_) fun _ _ q => q)
  cases r with
  | @tup a xs us hq rs =>
    refine ⟨a, rfl, ⟨xs, hq.sq⟩, h1 w1 _ eS st s1 (ItSim.same fun w' i x s' => ?_)⟩
    have hq' := (x.sqT s1 hq).sq
    have rs' := rs.ext x s1
    refine ⟨fun u hi => ?_, fun hi => ⟨xs, hq', by rw [← rs'.length]; exact hi⟩⟩
    obtain ⟨y, hy, ry⟩ := rs'.get hi
    refine ⟨⟨xs, y, hq', hy⟩, fun z H' q => ⟨q.1, ?_⟩⟩
    have e2 := q.2 xs hq'
    rw [hy] at e2
    cases e2
    exact ry
  | _ => exact h1.elim
theorem si_str {f : FE} (h : SimE X Wx iter f) : SimI X Wx tg iter (aOver strV f) := by
  obtain ⟨t, p, h⟩ := h.out
  refine ⟨_, pi_str p, fun w d σ Q s e h0 => ?_⟩
  refine h w d σ _ s e ((Pst.of_bind h0).mono (fun u S1 h1 w1 v eS st s1 r => ?_) fun _ _ q => q)
  cases r with
  | str z =>
    refine ⟨z, rfl, h1 w1 _ eS st s1 (ItSim.same fun w' i x s' => ?_)⟩
    refine ⟨fun u hi => ?_, fun hi => ?_⟩
    · rw [List.getElem?_map] at hi
      cases hc : z.cps.toList[i]? with
      | none => rw [hc] at hi; cases hi
      | some c =>
        rw [hc] at hi
        cases hi
        have hlt : i < z.cps.size := by
          have := (List.getElem?_eq_some_iff.mp hc).1
          simpa using this
        refine ⟨hlt, fun y H' q => ?_⟩
        obtain ⟨e1, c', e2, e3⟩ := q
        refine ⟨e1, ?_⟩
        have e4 : z.cps[i]? = some c := by rw [← Array.getElem?_toList]; exact hc
        rw [e4] at e2
        cases e2
        rw [e3]
        exact .str _
    · show z.cps.size ≤ i
      simpa using hi
  | _ => exact h1.elim
def rngU (lo c : Int) (n : Nat) : List U := (List.range n).map fun (i : Nat) => U.int (lo + (i : Int) * c)
def aRng1 (fa : FA) : FA := fun d S => (fa d S).bind fun us S1 => match us with
  | [.int j] => guard (decide (-(2 ^ 62) ≤ j) && decide (j < 2 ^ 62)) (.ok (rngU 0 1 j.toNat) S1)
  | _ => .bad
def aRng2 (fa : FA) : FA := fun d S => (fa d S).bind fun us S1 => match us with
  | [.int i, .int j] => guard (decide (-(2 ^ 62) ≤ i) && decide (i < 2 ^ 62) && decide (-(2 ^ 62) ≤ j) && decide (j < 2 ^ 62)) (.ok (rngU i 1 (j - i).toNat) S1)
  | _ => .bad
def rngN (i j c : Int) : Nat := (Builtin.Range.rangeSize i j c).toNat
def aRng3 (fa : FA) : FA := fun d S => (fa d S).bind fun us S1 => match us with
  | [.int i, .int j, .int c] => guard (decide (c ≠ 0) && decide (c.natAbs < 1073741824) && Builtin.Range.small i j c && decide (0 ≤ Builtin.Range.rangeSize i j c)) (.ok (rngU i c (rngN i j c)) S1)
  | _ => .bad
theorem rng_get {lo c : Int} {n i : Nat} {u : U} (h : (rngU lo c n)[i]? = some u) : i < n ∧ u = .int (lo + (i : Int) * c) := by
  unfold rngU at h
  rw [List.getElem?_map] at h
  cases hr : (List.range n)[i]? with
  | none => rw [hr] at h; cases h
  | some k =>
    rw [hr] at h
    cases h
    obtain ⟨h1, h2⟩ := List.getElem?_eq_some_iff.mp hr
    rw [List.getElem_range] at h2
    subst h2
    exact ⟨by simpa using h1, rfl⟩
theorem it_range {K : PySem.W.Frag} {w : Wd} (lo : Int) (n : Nat) : ItSim K w (Itr lo n) (rngU lo 1 n) := ItSim.same fun w' i x s => by
  refine ⟨fun u hu => ?_, fun h => (show n ≤ i by simpa [rngU] using h)⟩
  obtain ⟨h1, rfl⟩ := rng_get hu
  refine ⟨h1, fun y H' q => ⟨q.1, ?_⟩⟩
  rw [q.2, Int.mul_one]
  exact .int _
theorem it_rangeC {K : PySem.W.Frag} {w : Wd} (lo c : Int) (n : Nat) : ItSim K w (Itc lo c n) (rngU lo c n) := ItSim.same fun w' i x s => by
  refine ⟨fun u hu => ?_, fun h => (show n ≤ i by simpa [rngU] using h)⟩
  obtain ⟨h1, rfl⟩ := rng_get hu
  refine ⟨h1, fun y H' q => ⟨q.1, ?_⟩⟩
  rw [q.2]
  exact .int _
theorem si_range1 {a : Expr} {fa : FA} {p pos : Pos} (hg : Gl X "range") (hm : X.mg "range" = none) (ha : SimA X Wx [a] fa) (hs : starEach [a] X.env = [(false, eval a X.env)] := by rfl) : SimI X Wx tg (.Call (.Name "range" p) [a] [] pos) (aRng1 fa) := by
  obtain ⟨t, p, ha⟩ := ha.out
  refine ⟨_, pi_range1 hg hm p hs, fun w d σ Q s e h0 => ?_⟩
  refine ha w d σ _ s e ((Pst.of_bind h0).mono (fun us S1 h1 w1 vs eS st s1 rs => ?_) fun _ _ q => q)
  split at h1
  · obtain ⟨hl, h1⟩ := guard_post h1
    rw [Bool.and_eq_true] at hl
    cases rs with
    | cons r rs =>
      cases rs; cases r
      exact ⟨_, rfl, of_decide_eq_true hl.1, of_decide_eq_true hl.2, h1 w1 _ eS st s1 (it_range 0 _)⟩
  · exact h1.elim
theorem si_range2 {a b : Expr} {fa : FA} {p pos : Pos} (hg : Gl X "range") (hm : X.mg "range" = none) (ha : SimA X Wx [a, b] fa) (hs : starEach [a, b] X.env = [(false, eval a X.env), (false, eval b X.env)] := by rfl) (hs2 : starEach [b] X.env = [(false, eval b X.env)] := by rfl) :
    SimI X Wx tg (.Call (.Name "range" p) [a, b] [] pos) (aRng2 fa) := by
  obtain ⟨t, p, ha⟩ := ha.out
  refine ⟨_, pi_range2 hg hm p hs hs2, fun w d σ Q s e h0 => ?_⟩
  refine ha w d σ _ s e ((Pst.of_bind h0).mono (fun us S1 h1 w1 vs eS st s1 rs => ?_) fun _ _ q => q)
  split at h1
  · obtain ⟨hl, h1⟩ := guard_post h1
    simp only [Bool.and_eq_true, decide_eq_true_eq] at hl
    cases rs with
    | cons r rs =>
      cases rs with
      | cons r2 rs =>
        cases rs; cases r; cases r2
        exact ⟨_, _, rfl, ⟨hl.1.1.1, hl.1.1.2, hl.1.2, hl.2⟩, h1 w1 _ eS st s1 (it_range _ _)⟩
  · exact h1.elim
theorem si_range3 {a b c : Expr} {fa : FA} {p pos : Pos} (hg : Gl X "range") (hm : X.mg "range" = none) (ha : SimA X Wx [a, b, c] fa)
    (hs : starEach [a, b, c] X.env = (false, eval a X.env) :: starEach [b, c] X.env := by rfl) (hpl : (backTo pos (starEach [b, c] X.env)).any (·.1) = false := by rfl) :
    SimI X Wx tg (.Call (.Name "range" p) [a, b, c] [] pos) (aRng3 fa) := by
  obtain ⟨t, p, ha⟩ := ha.out
  refine ⟨_, pi_range3 hg hm p hs hpl, fun w d σ Q s e h0 => ?_⟩
  refine ha w d σ _ s e ((Pst.of_bind h0).mono (fun us S1 h1 w1 vs eS st s1 rs => ?_) fun _ _ q => q)
  split at h1
  · obtain ⟨hl, h1⟩ := guard_post h1
    simp only [Bool.and_eq_true, decide_eq_true_eq] at hl
    cases rs with
    | cons r rs =>
      cases rs with
      | cons r2 rs =>
        cases rs with
        | cons r3 rs =>
          cases rs; cases r; cases r2; cases r3
          refine ⟨_, _, _, rngN _ _ _, rfl, ⟨hl.1.1.1, hl.1.1.2, hl.1.2, ?_⟩, h1 w1 _ eS st s1 (it_rangeC _ _ _)⟩
          unfold rngN
          rw [Int.toNat_of_nonneg hl.2]
  · exact h1.elim
end
end DL

set_option Elab.async false
set_option linter.all false
set_option maxRecDepth 100000
namespace DL
open PySem PySem.Spec L2
section
variable {X : Cx} {Wx : WX} {pos : Pos} {tg iter elt c : Expr} {body : List Stmt}

/-! ### for -/
def loopF (g : U → En → Option En) (f : FS) : List U → FS
  | [], d, S => .ok (.nx d) S
  | u :: us, d, S => match g u d with
    | none => .bad
    | some d1 => match f d1 S with
      | .ok (.nx d2) S1 => loopF g f us d2 S1
      | .ok (.ct d2) S1 => loopF g f us d2 S1
      | .ok (.bk d2) S1 => .ok (.nx d2) S1
      | r => r
def fFor (fi : FA) (g : U → En → Option En) (f : FS) : FS := fun d S => toS d (fi d S) fun us S1 => loopF g f us d S1
theorem drop_at {us : List U} {i : Nat} (h : i < us.length) : us.drop i = us[i] :: us.drop (i + 1) := List.drop_eq_getElem_cons h
theorem ss_for {fi : FA} {is : List Nat} {g : U → En → Option En} {f : FS} (hp : PassesOwn (model X.prog X.w) X.A X.env X.xe) (hc : X.calm = true) (hi : SimI X Wx tg iter fi) (hg : SimG X tg is g) (hb : SimB X Wx body f)
    (hs : ∀ x, foldedSetIterable iter X.env x = pure x := by intro _; rfl) : SimS X Wx (.For tg iter body [] pos) (fFor fi g f) := by
  obtain ⟨ti, pi, hi⟩ := hi
  obtain ⟨tg', pg, hg⟩ := hg.out
  obtain ⟨tb, pb, hb⟩ := hb.out
  refine SimS.mk (ps_for hp hc pi pg pb hs) (fun w d σ D s e h => ?_)
  refine hi w d σ _ s e ((toS_post s e h).mono (fun us S1 h1 w1 J eS st s1 it => ?_) fun _ _ q => q)
  subst eS
  refine ⟨fun i m σ' H => ∃ (w' : Wd) (d' : En), w'.H = H ∧ Stp w1 w' ∧ SR X.K w' ∧ ER X.K w' d' σ' ∧ m = us.length - i ∧ i ≤ us.length ∧ Pst (loopF g f (us.drop i) d' w'.S) (OkS X Wx w D) (fun _ _ => False),
    ⟨us.length, w1, d, rfl, Stp.refl w1, s1, e.ext st.x s, by simp, Nat.zero_le _, h1⟩, ?_⟩
  rintro i m σ' H ⟨w', d', rfl, st', s', e', rfl, hil, q⟩
  obtain ⟨it1, it2⟩ := it w' i st'.x s'
  by_cases hlt : i < us.length
  · rw [drop_at hlt] at q
    obtain ⟨go, yl⟩ := it1 us[i] (List.getElem?_eq_getElem hlt)
    refine .inr ⟨go, fun σ2 H2 => ∃ (w2 : Wd) (d2 : En), w2.H = H2 ∧ Stp w1 w2 ∧ SR X.K w2 ∧ ER X.K w2 d2 σ2 ∧ Pst (loopF g f (us.drop (i + 1)) d2 w2.S) (OkS X Wx w D) (fun _ _ => False), fun σ2 H2 ⟨w2, d2, e1, e2, e3, e4, e5⟩ => ⟨us.length - (i + 1), by omega, w2, d2, e1, e2, e3, e4, rfl, hlt, e5⟩, fun x H' y => ?_⟩
    obtain ⟨w2, rfl, eS2, st2, s2, rx⟩ := yl x H' y
    rw [← eS2] at q
    unfold loopF at q
    split at q
    · exact q.elim
    · rename_i d1 hd1
      refine hg w2 us[i] x d' d1 σ' _ s2 (e'.ext st2.x s') rx hd1 fun σ1 e1 _ => ?_
      refine hb w2 d1 σ1 _ s2 e1 ?_
      have st02 := st.trans (st'.trans st2)
      split at q
      · rename_i d2 S2 hf
        rw [hf]
        exact fun w3 eS3 st3 s3 σ3 e3 => ⟨w3, d2, rfl, (st'.trans st2).trans st3, s3, e3, by rw [eS3]; exact q⟩
      · rename_i d2 S2 hf
        rw [hf]
        exact fun w3 eS3 st3 s3 σ3 e3 => ⟨w3, d2, rfl, (st'.trans st2).trans st3, s3, e3, by rw [eS3]; exact q⟩
      · rename_i d2 S2 hf
        rw [hf]
        exact fun w3 eS3 st3 s3 σ3 e3 => q w3 eS3 (st02.trans st3) s3 σ3 e3
      · rename_i hn1 hn2 hn3
        cases hf : f d1 w2.S with
        | ok fl S2 =>
          rw [hf] at q
          cases fl with
          | nx d2 => exact absurd hf (hn1 d2 S2)
          | ct d2 => exact absurd hf (hn2 d2 S2)
          | bk d2 => exact absurd hf (hn3 d2 S2)
          | rt u => exact fun w3 eS3 st3 s3 v r => q w3 eS3 (st02.trans st3) s3 v r
          | ex x d2 => exact fun w3 eS3 st3 s3 σ3 e3 cls dd xr => q w3 eS3 (st02.trans st3) s3 σ3 e3 cls dd xr
        | exc x S => rw [hf] at q; exact q
        | bad => rw [hf] at q; exact q
  · have e0 : i = us.length := by omega
    subst e0
    rw [List.drop_length] at q
    exact .inl ⟨it2 (Nat.le_refl _), q w' rfl (st.trans st') s' σ' e'⟩

/-! ### while -/
def whileF (fc : FT) (f : FS) : Nat → FS
  | 0, _, _ => .bad
  | n + 1, d, S => toS d (fc d S) fun b S1 => if b then
      match f d S1 with
      | .ok (.nx d2) S2 => whileF fc f n d2 S2
      | .ok (.ct d2) S2 => whileF fc f n d2 S2
      | .ok (.bk d2) S2 => .ok (.nx d2) S2
      | r => r
    else .ok (.nx d) S1
theorem ss_while (n : Nat) {fc : FT} {f : FS} (hp : PassesOwn (model X.prog X.w) X.A X.env X.xe) (hc : SimT X Wx c fc) (hb : SimB X Wx body f) : SimS X Wx (.While c body [] pos) (whileF fc f n) := by
  obtain ⟨tc, pc, hc⟩ := hc.out
  obtain ⟨tb, pb, hb⟩ := hb.out
  refine SimS.mk (ps_while hp pc pb) (fun w d σ D s e h => ?_)
  refine ⟨fun m σ' H => ∃ (w' : Wd) (d' : En), w'.H = H ∧ SR X.K w' ∧ ER X.K w' d' σ' ∧ Pst (whileF fc f m d' w'.S) (OkS X Wx w' D) (fun _ _ => False), ⟨n, w, d, rfl, s, e, h⟩, ?_⟩
  rintro m σ' H ⟨w', d', rfl, s', e', q⟩
  cases m with
  | zero => exact q.elim
  | succ m =>
    unfold whileF at q
    refine hc w' d' σ' _ s' e' ((toS_post s' e' q).mono (fun b S1 h1 w1 eS st1 s1 => ?_) fun _ _ z => z)
    subst eS
    cases b with
    | false => exact h1 w1 rfl st1 s1 σ' (e'.ext st1.x s')
    | true =>
      refine ⟨fun σ2 H2 => ∃ (w2 : Wd) (d2 : En), w2.H = H2 ∧ SR X.K w2 ∧ ER X.K w2 d2 σ2 ∧ Pst (whileF fc f m d2 w2.S) (OkS X Wx w2 D) (fun _ _ => False), fun σ2 H2 z => ⟨m, Nat.lt_succ_self m, z⟩, ?_⟩
      refine hb w1 d' σ' _ s1 (e'.ext st1.x s') ?_
      have h1 : Pst (match f d' w1.S with
          | .ok (.nx d2) S2 => whileF fc f m d2 S2
          | .ok (.ct d2) S2 => whileF fc f m d2 S2
          | .ok (.bk d2) S2 => .ok (.nx d2) S2
          | r => r) (OkS X Wx w' D) (fun _ _ => False) := h1
      split at h1
      · rename_i d2 S2 hf
        rw [hf]
        exact fun w3 eS3 st3 s3 σ3 e3 => ⟨w3, d2, rfl, s3, e3, by rw [eS3]; exact Pst.mono h1 (fun _ _ z => z.up (st1.trans st3)) fun _ _ z => z⟩
      · rename_i d2 S2 hf
        rw [hf]
        exact fun w3 eS3 st3 s3 σ3 e3 => ⟨w3, d2, rfl, s3, e3, by rw [eS3]; exact Pst.mono h1 (fun _ _ z => z.up (st1.trans st3)) fun _ _ z => z⟩
      · rename_i d2 S2 hf
        rw [hf]
        exact fun w3 eS3 st3 s3 σ3 e3 => h1 w3 eS3 (st1.trans st3) s3 σ3 e3
      · rename_i hn1 hn2 hn3
        cases hf : f d' w1.S with
        | ok fl S2 =>
          rw [hf] at h1
          cases fl with
          | nx d2 => exact absurd hf (hn1 d2 S2)
          | ct d2 => exact absurd hf (hn2 d2 S2)
          | bk d2 => exact absurd hf (hn3 d2 S2)
          | rt u => exact fun w3 eS3 st3 s3 v r => h1 w3 eS3 (st1.trans st3) s3 v r
          | ex x d2 => exact fun w3 eS3 st3 s3 σ3 e3 cls dd xr => h1 w3 eS3 (st1.trans st3) s3 σ3 e3 cls dd xr
        | exc x S => rw [hf] at h1; exact h1
        | bad => rw [hf] at h1; exact h1

/-! ### comprehensions -/
abbrev W0 : WX := fun _ _ _ _ => False
def SimTs (X : Cx) (Wx : WX) (ifs : List Expr) (f : FT) : Prop := PTs X ifs (tT X Wx f)
def fYes : FT := fun _ S => .ok true S
theorem ts_nil : SimTs X Wx [] fYes := ⟨fun pins s σ H Q I ⟨w, d, e, sr, er, q⟩ => pts_nil.run pins s σ H Q I (by subst e; exact q w rfl (Stp.refl w) sr)⟩
theorem ts_one {f : FT} (h : SimT X Wx c f) : SimTs X Wx [c] f := pts_one h
def wipeE (d : En) : List Nat → En
  | [] => d
  | v :: vs => (wipeE d vs).set v none
theorem ER.wipe {K : PySem.W.Frag} {w : Wd} {d : En} {σ : L2.St} (e : ER K w d σ) : ∀ vs : List Nat, ER K w (wipeE d vs) (L2.wipe σ vs)
  | [] => e
  | v :: vs => (ER.wipe e vs).forget v none
/-- what a comprehension makes, behind acc -/
def compF (g : U → En → Option En) (ft : FT) (fe : FE) (d : En) : List U → List U → Sto → R (List U)
  | [], acc, S => .ok acc S
  | u :: us, acc, S => match g u d with
    | none => .bad
    | some d1 => match ft d1 S with
      | .ok true S1 => match fe d1 S1 with
        | .ok y S2 => guard (decide (acc.length < sizeLine)) (compF g ft fe d us (acc ++ [y]) S2)
        | _ => .bad
      | .ok false S1 => compF g ft fe d us acc S1
      | _ => .bad
def aComp (fi : FA) (g : U → En → Option En) (ft : FT) (fe : FE) (vs : List Nat) : FA := fun d S => (fi d S).bind fun us S1 => compF g ft fe (wipeE d vs) us [] S1
theorem comp_core {wi : TI} {fi : FA} {is vs : List Nat} {g : U → En → Option En} {ft : FT} {fe : FE}
    (hi : ∀ (w : Wd) (d : En) (σ : L2.St) (Q : It → Hp → Prop), SR X.K w → ER X.K w d σ → Pst (fi d w.S) (OkI X w Q) (XPost X Wx σ w) → wi σ w.H Q) (hv : ∀ i ∈ is, i ∈ vs)
    (w : Wd) (d : En) (σ : L2.St) (Q : VK) (s : SR X.K w) (e : ER X.K w d σ) (h : Pst (aComp fi g ft fe vs d w.S) (OkL X w Q) (XPost X Wx σ w)) : tLc wi (tG X is g) (tT X W0 ft) (tE X W0 fe) vs σ w.H Q := by
  refine hi w d σ _ s e ((Pst.of_bind h).mono (fun us S1 h1 w1 J eS st s1 it => ?_) fun _ _ q => q)
  subst eS
  intro D hD
  have nD : D ∉ w1.r := fun z => s1.tracked (.inl z) hD
  have noE : ∀ (us acc : List U) (S : Sto), Pst (compF g ft fe (wipeE d vs) us acc S) (OkL X w Q) (XPost X Wx σ w) → Pst (compF g ft fe (wipeE d vs) us acc S) (OkL X w Q) (fun _ _ => False) := fun us => by
    induction us with
    | nil => intro acc S h; exact h
    | cons u us ih =>
      intro acc S h
      unfold compF at h ⊢
      split at h
      · exact h.elim
      · split at h
        · split at h
          · obtain ⟨hl, h⟩ := guard_post h
            rw [hl]
            exact ih _ _ h
          · exact h.elim
        · exact ih _ _ h
        · exact h.elim
  refine ⟨fun i m H => ∃ (w' : Wd) (acc : List U) (xs : List V), w'.H = H ∧ Ext w1 w' ∧ (∀ a ∈ w1.r, w'.H a = w1.H a) ∧ SR X.K w' ∧ w'.r = D :: w1.r ∧ w'.H D = some (.lst xs) ∧ VRs X.K w' acc xs ∧ m = us.length - i ∧ i ≤ us.length ∧
      Pst (compF g ft fe (wipeE d vs) (us.drop i) acc w'.S) (OkL X w Q) (fun _ _ => False),
    ⟨us.length, w1.hold D (.lst []), [], [], rfl, Ext.hold s1 hD, fun a ha => ?_, s1.hold hD (.inl ⟨_, rfl⟩), rfl, upd_same, .nil, by simp, Nat.zero_le _, noE us [] w1.S h1⟩, ?_⟩
  · show upd w1.H D _ a = w1.H a
    rw [upd_ne fun z => nD (by rw [← z]; exact ha)]
  rintro i m H ⟨w', acc, xs, rfl, x1, k1, s', er, eD, rs, rfl, hil, q⟩
  have hDr : D ∈ w'.r := by rw [er]; exact List.mem_cons_self
  obtain ⟨it1, it2⟩ := it w' i x1 s'
  by_cases hlt : i < us.length
  · rw [drop_at hlt] at q
    obtain ⟨go, yl⟩ := it1 us[i] (List.getElem?_eq_getElem hlt)
    refine .inr ⟨go, fun H2 => ∃ (w2 : Wd) (acc2 : List U) (xs2 : List V), w2.H = H2 ∧ Ext w1 w2 ∧ (∀ a ∈ w1.r, w2.H a = w1.H a) ∧ SR X.K w2 ∧ w2.r = D :: w1.r ∧ w2.H D = some (.lst xs2) ∧ VRs X.K w2 acc2 xs2 ∧ Pst (compF g ft fe (wipeE d vs) (us.drop (i + 1)) acc2 w2.S) (OkL X w Q) (fun _ _ => False),
      fun H2 ⟨w2, acc2, xs2, e1, e2, e3, e4, e5, e6, e7, e8⟩ => ⟨us.length - (i + 1), by omega, w2, acc2, xs2, e1, e2, e3, e4, e5, e6, e7, rfl, hlt, e8⟩, fun x H' y => ?_⟩
    obtain ⟨w2, rfl, eS2, st2, s2, rx⟩ := yl x H' y
    rw [← eS2] at q
    have sub : ∀ a ∈ w1.r, a ∈ w'.r := fun a ha => by rw [er]; exact List.mem_cons_of_mem _ ha
    -- later worlds
    have later : ∀ {w3 : Wd}, Stp w' w3 → SR X.K w3 → Ext w1 w3 ∧ (∀ a ∈ w1.r, w3.H a = w1.H a) ∧ w3.r = D :: w1.r ∧ w3.H D = some (.lst xs) ∧ VRs X.K w3 acc xs := fun {w3} st3 s3 =>
      ⟨x1.trans st3.x, fun a ha => (st3.k a (sub a ha)).trans (k1 a ha), st3.r.trans er, (st3.k D hDr).trans eD, rs.ext st3.x s'⟩
    unfold compF at q
    split at q
    · exact q.elim
    · rename_i d1 hd1
      have e2 : ER X.K w2 (wipeE d vs) (L2.wipe σ vs) := (((e.ext st.x s).ext x1 s1).ext st2.x s').wipe vs
      refine ⟨w2, us[i], wipeE d vs, d1, rfl, s2, e2, rx, hd1, fun σ2 eσ kσ => ⟨?_, ?_⟩⟩
      · have hk := kσ vs hv
        have ww : ∀ σ : L2.St, L2.wipe (L2.wipe σ vs) vs = L2.wipe σ vs := fun σ => by
          refine List.ext_getElem? fun j => ?_
          rw [wipe_get, wipe_get, wipe_length]
          split <;> rfl
        rw [hk, ww]
      · refine ⟨w2, d1, rfl, s2, eσ, ?_⟩
        split at q
        · rename_i S3 ht
          rw [ht]
          intro w3 eS3 st3 s3
          rw [← eS3] at q
          split at q
          · rename_i y4 S4 hy
            refine ⟨w3, d1, rfl, s3, eσ.ext st3.x s2, ?_⟩
            rw [hy]
            intro w4 v4 eS4 st4 s4 r4
            rw [← eS4] at q
            obtain ⟨hl, q⟩ := guard_post q
            have st34 := (st2.trans st3).trans st4
            obtain ⟨l1, l2, l3, l4, l5⟩ := later st34 s4
            have hD4 : D ∈ w4.r := by rw [l3]; exact List.mem_cons_self
            refine ⟨xs, l4, by rw [← rs.length]; exact of_decide_eq_true hl, w4.grow D (xs ++ [v4]), acc ++ [y4], xs ++ [v4], rfl, l1.trans (Ext.grow hD4), fun a ha => ?_, s4.grow hD4, l3, upd_same, (l5.snoc r4).ext (Ext.grow hD4) s4, q⟩
            show upd w4.H D _ a = w1.H a
            rw [upd_ne fun z => nD (by rw [← z]; exact ha)]
            exact l2 a ha
          · exact q.elim
        · rename_i S3 ht
          rw [ht]
          intro w3 eS3 st3 s3
          rw [← eS3] at q
          obtain ⟨l1, l2, l3, l4, l5⟩ := later (st2.trans st3) s3
          exact ⟨w3, acc, xs, rfl, l1, l2, s3, l3, l4, l5, q⟩
        · exact q.elim
  · have e0 : i = us.length := by omega
    subst e0
    rw [List.drop_length] at q
    refine .inl ⟨it2 (Nat.le_refl _), ?_⟩
    have hq := q (w'.cut D) D xs rfl ⟨(st.x.trans (x1.cut hD)), ?_, fun a ha => ?_⟩ (s'.cut hDr) (rs.cut (.inl hDr) eD (.inl ⟨_, rfl⟩)) cut_D
    · rw [cut_back eD] at hq
      exact hq
    · show w'.r.filter _ = w.r
      rw [er, let_go_r nD]
      exact st.r
    · have ha1 : a ∈ w1.r := by rw [st.r]; exact ha
      rw [cut_at fun z => nD (by rw [← z]; exact ha1), k1 a ha1]
      exact st.k a ha
section
variable {ifs : List Expr} {scope : Scope} {own : List (Str × Nat)} {fi : FA} {is vs : List Nat} {g : U → En → Option En} {ft : FT} {fe : FE}
theorem sl_comp (hc : X.calm = true) (hN : X.N.Nodup) (hi : SimI X Wx tg iter fi) (ok : BlkOk X.N X.env.scope scope own)
    (hg : ∀ (s : Shared) (H : Hp) (C : Addr) (cl : List (Str × Addr)) (fp : List Addr), SimG (X.blk s H scope (compEnvC scope cl C X.env) fp) tg is g)
    (ht : ∀ (s : Shared) (H : Hp) (C : Addr) (cl : List (Str × Addr)) (fp : List Addr), SimTs (X.blk s H scope (compEnvC scope cl C X.env) fp) W0 ifs ft)
    (he : ∀ (s : Shared) (H : Hp) (C : Addr) (cl : List (Str × Addr)) (fp : List Addr), SimE (X.blk s H scope (compEnvC scope cl C X.env) fp) W0 elt fe)
    (hvs : own.map (·.2) = vs := by rfl) (hv : ∀ i ∈ is, i ∈ vs := by decide) (hs : ∀ x, foldedSetIterable iter X.env x = pure x := by intro _; rfl) :
    SimL X Wx (.ListComp elt [⟨tg, iter, ifs, 0⟩] scope pos) (aComp fi g ft fe vs) := by
  subst hvs
  obtain ⟨ti, pi, hi⟩ := hi
  exact SimL.mk (pe_lc (g := tG X is g) (tt := tT X W0 ft) (te := tE X W0 fe) hc hN pi ok hg ht he hs) (fun w d σ Q s e h => comp_core hi hv w d σ Q s e h)
theorem ss_setComp (i : Nat) {y : Str} {py spos : Pos} (hc : X.calm = true) (hN : X.N.Nodup) (hy : X.N[i]? = some y) (hyl : X.env.scope.names.lookup y = some .local)
    (hsw : swapsWith (.ListComp elt [⟨tg, iter, ifs, 0⟩] scope pos) (some (.Name y py)) spos.line X.env = pure true) (hi : SimI X Wx tg iter fi) (ok : BlkOk X.N X.env.scope scope own)
    (hg : ∀ (s : Shared) (H : Hp) (C : Addr) (cl : List (Str × Addr)) (fp : List Addr), SimG (X.blk s H scope (compEnvC scope cl C X.env) fp) tg is g)
    (ht : ∀ (s : Shared) (H : Hp) (C : Addr) (cl : List (Str × Addr)) (fp : List Addr), SimTs (X.blk s H scope (compEnvC scope cl C X.env) fp) W0 ifs ft)
    (he : ∀ (s : Shared) (H : Hp) (C : Addr) (cl : List (Str × Addr)) (fp : List Addr), SimE (X.blk s H scope (compEnvC scope cl C X.env) fp) W0 elt fe)
    (hvs : own.map (·.2) = vs := by rfl) (hv : ∀ i ∈ is, i ∈ vs := by decide) (hs : ∀ x, foldedSetIterable iter X.env x = pure x := by intro _; rfl) :
    SimS X Wx (.Assign [.Name y py] (.ListComp elt [⟨tg, iter, ifs, 0⟩] scope pos) spos) (fSet i (fVal (aComp fi g ft fe vs))) ∧
    SimS X Wx (.Assign [.Name y py] (.ListComp elt [⟨tg, iter, ifs, 0⟩] scope pos) spos) (fSet i (fLoc (aComp fi g ft fe vs))) := by
  subst hvs
  obtain ⟨ti, pi, hi⟩ := hi
  have hp := ps_setLc (g := tG X is g) (tt := tT X W0 ft) (te := tE X W0 fe) hc hN hy hyl hsw pi ok hg ht he hs
  refine ⟨SimS.mk hp (fun w d σ D s e h => ?_), SimS.mk hp (fun w d σ D s e h => ?_)⟩
  · refine comp_core hi hv w d σ _ s e ((Pst.of_bind (toS_post s e h)).mono (fun us S1 h1 w1 p xs eS st s1 rs hp => ?_) fun _ _ q => q)
    subst eS
    have st1 := Stp.new s1 (o := .lst xs) hp
    exact h1 (w1.new p (.lst xs)) rfl (st.trans st1) (s1.new hp) _ (((e.ext st.x s).ext st1.x s1).set i (.lst upd_same (fun q => s1.tracked q hp) (rs.ext st1.x s1)))
  · refine comp_core hi hv w d σ _ s e ((Pst.of_bind (toS_post s e h)).mono (fun us S1 h1 w1 p xs eS st s1 rs hp => ?_) fun _ _ q => q)
    subst eS
    have st1 := Stp.push s1 (o := .lst xs) (b := .lst us) hp
    refine h1 (w1.push p (.lst xs) (.lst us)) rfl (st.trans st1) (s1.push hp ⟨xs, upd_same, rs.ext st1.x s1⟩) _ (((e.ext st.x s).ext st1.x s1).set i (.loc ?_))
    show (w1.m ++ [p])[w1.S.length]? = some p
    rw [← s1.len]
    simp
end
end
end DL

set_option Elab.async false
set_option linter.all false
set_option maxRecDepth 100000
namespace DL
open PySem PySem.Spec L2

/-! ### dicts, put -/
def hasK (ks : List Key) (k : Key) : Bool := ks.any fun j => decide (j = k)
def replU : List Key → List U → Key → U → List U
  | j :: ks, y :: us, k, u => (if j = k then u else y) :: replU ks us k u
  | _, _, _, _ => []
def putU (ks : List Key) (us : List U) (k : Key) (u : U) : List Key × List U := if hasK ks k then (ks, replU ks us k u) else (ks ++ [k], us ++ [u])
section
variable {K : PySem.W.Frag} {w : Wd}
theorem zip_any {k : Key} : ∀ {ks : List Key} {xs : List V}, ks.length = xs.length → ((ks.zip xs).any fun kv => decide (kv.1 = k)) = hasK ks k
  | [], _, _ => rfl
  | j :: ks, [], h => by rw [List.length_cons, List.length_nil] at h; omega
  | j :: ks, x :: xs, h => by
    rw [List.zip_cons_cons, List.any_cons, zip_any (ks := ks) (xs := xs) (by simpa using h)]
    rfl
theorem repl_ok {k : Key} {u : U} {v : V} (r : VR K w u v) : ∀ {ks : List Key} {us : List U} {xs : List V}, ks.length = us.length → VRs K w us xs →
    ∃ xs', (ks.zip xs).map (fun kv => if kv.1 = k then (kv.1, v) else kv) = ks.zip xs' ∧ VRs K w (replU ks us k u) xs' ∧ (replU ks us k u).length = ks.length
  | [], us, xs, h, rs => by
    cases us with
    | nil => exact ⟨[], by rw [List.zip_nil_left, List.zip_nil_left]; rfl, .nil, rfl⟩
    | cons y us => rw [List.length_cons, List.length_nil] at h; omega
  | j :: ks, us, xs, h, rs => by
    cases rs with
    | nil => rw [List.length_cons, List.length_nil] at h; omega
    | @cons y us x xs ry rs =>
      obtain ⟨xs', e, rs', l⟩ := repl_ok r (ks := ks) (by simpa using h) rs
      rw [List.zip_cons_cons, List.map_cons, e]
      by_cases hj : j = k
      · refine ⟨v :: xs', by rw [if_pos hj, List.zip_cons_cons], ?_, ?_⟩
        · show VRs K w ((if j = k then u else y) :: replU ks us k u) (v :: xs')
          rw [if_pos hj]; exact .cons r rs'
        · show ((if j = k then u else y) :: replU ks us k u).length = _
          rw [List.length_cons, List.length_cons, l]
      · refine ⟨x :: xs', by rw [if_neg hj, List.zip_cons_cons], ?_, ?_⟩
        · show VRs K w ((if j = k then u else y) :: replU ks us k u) (x :: xs')
          rw [if_neg hj]; exact .cons ry rs'
        · show ((if j = k then u else y) :: replU ks us k u).length = _
          rw [List.length_cons, List.length_cons, l]
theorem put_ok {k : Key} {u : U} {v : V} (r : VR K w u v) {ks : List Key} {us : List U} {xs : List V} (l : ks.length = us.length) (rs : VRs K w us xs) :
    ∃ xs', putK (ks.zip xs) k v = (putU ks us k u).1.zip xs' ∧ VRs K w (putU ks us k u).2 xs' ∧ (putU ks us k u).1.length = (putU ks us k u).2.length := by
  unfold putK putU
  rw [zip_any (by rw [l, rs.length])]
  cases hasK ks k with
  | true =>
    obtain ⟨xs', e, rs', l'⟩ := repl_ok (k := k) r l rs
    exact ⟨xs', e, rs', l'.symm⟩
  | false =>
    refine ⟨xs ++ [v], ?_, rs.snoc r, ?_⟩
    · show ks.zip xs ++ [(k, v)] = (ks ++ [k]).zip (xs ++ [v])
      rw [List.zip_append (by rw [l, rs.length])]
      rfl
    · show (ks ++ [k]).length = (us ++ [u]).length
      simp [l]
def mergeU (acc : List Key × List U) : List (Key × U) → List Key × List U
  | [] => acc
  | (k, u) :: r => mergeU (putU acc.1 acc.2 k u) r
theorem merge_ok : ∀ {ps : List (Key × U)} {vs : List V} {ks : List Key} {us : List U} {xs : List V}, VRs K w (ps.map (·.2)) vs → ks.length = us.length → VRs K w us xs →
    ∃ xs', mergeK (ks.zip xs) ((ps.map (·.1)).zip vs) = (mergeU (ks, us) ps).1.zip xs' ∧ VRs K w (mergeU (ks, us) ps).2 xs' ∧ (mergeU (ks, us) ps).1.length = (mergeU (ks, us) ps).2.length
  | [], _, ks, us, xs, .nil, l, rs => ⟨xs, rfl, rs, l⟩
  | (k, u) :: ps, v :: vs, ks, us, xs, .cons r rr, l, rs => by
    obtain ⟨xs1, e1, r1, l1⟩ := put_ok (k := k) r l rs
    obtain ⟨xs2, e2, r2, l2⟩ := merge_ok rr l1 r1
    refine ⟨xs2, ?_, r2, l2⟩
    show mergeK (putK (ks.zip xs) k v) ((ps.map (·.1)).zip vs) = _
    rw [e1]
    exact e2
end

section
variable {X : Cx} {Wx : WX}
/-! ### displays -/
abbrev FD := En → Sto → R (List Key × List U)
def OkD (X : Cx) (w : Wd) (Q : VK) (p : List Key × List U) (S' : Sto) : Prop :=
  ∀ (w' : Wd) (a : Addr) (xs : List V), w'.S = S' → Stp w w' → SR X.K w' → p.1.length = p.2.length → VRs X.K w' p.2 xs → w'.H a = none → Q (.ref a) (upd w'.H a (.dK (p.1.zip xs)))
theorem OkD.up {w w1 : Wd} {Q : VK} {u : List Key × List U} {S' : Sto} (h : OkD X w Q u S') (st : Stp w w1) : OkD X w1 Q u S' := fun w' p xs e s2 sr l r hp => h w' p xs e (st.trans s2) sr l r hp
/-- an expression that makes a new dict -/
def SimD (X : Cx) (Wx : WX) (e : Expr) (f : FD) : Prop := PE X e (fun σ H Q => ∃ (w : Wd) (d : En), w.H = H ∧ SR X.K w ∧ ER X.K w d σ ∧ Pst (f d w.S) (OkD X w Q) (XPost X Wx σ w))
theorem SimD.mk {e : Expr} {f : FD} {t : TE} (p : PE X e t) (h : ∀ (w : Wd) (d : En) (σ : L2.St) (Q : VK), SR X.K w → ER X.K w d σ → Pst (f d w.S) (OkD X w Q) (XPost X Wx σ w) → t σ w.H Q) : SimD X Wx e f :=
  ⟨fun pins s σ H Q I ⟨w, d, e, sr, er, q⟩ => p.run pins s σ H Q I (by subst e; exact h w d σ Q sr er q)⟩
def fDval (g : FD) : FE := fun d S => (g d S).bind fun p S1 => .ok (.dic p.1 p.2) S1
def fDloc (g : FD) : FE := fun d S => (g d S).bind fun p S1 => .ok (.loc S1.length) (S1 ++ [.dic p.1 p.2])
theorem SimD.val {e : Expr} {g : FD} (h : SimD X Wx e g) : SimE X Wx e (fDval g) := by
  refine SimE.mk h (fun w d σ Q s e h0 => ⟨w, d, rfl, s, e, (Pst.of_bind h0).mono (fun p S1 h1 w1 a xs eS st s1 l rs hp => ?_) fun _ _ q => q⟩)
  subst eS
  have st1 := Stp.new s1 (o := .dK (p.1.zip xs)) hp
  exact h1 (w1.new a _) (.ref a) rfl (st.trans st1) (s1.new hp) (.dic upd_same (fun q => s1.tracked q hp) l (rs.ext st1.x s1))
theorem SimD.loc {e : Expr} {g : FD} (h : SimD X Wx e g) : SimE X Wx e (fDloc g) := by
  refine SimE.mk h (fun w d σ Q s e h0 => ⟨w, d, rfl, s, e, (Pst.of_bind h0).mono (fun p S1 h1 w1 a xs eS st s1 l rs hp => ?_) fun _ _ q => q⟩)
  subst eS
  have st1 := Stp.push s1 (o := .dK (p.1.zip xs)) (b := .dic p.1 p.2) hp
  refine h1 (w1.push a _ (.dic p.1 p.2)) (.ref a) rfl (st.trans st1) (s1.push hp ⟨xs, upd_same, l, rs.ext st1.x s1⟩) (.loc ?_)
  show (w1.m ++ [a])[w1.S.length]? = some a
  rw [← s1.len]
  simp
variable {pos : Pos}
def dNew : FD := fun _ S => .ok ([], []) S
theorem sd_new : SimD X Wx (.Dict [] [] pos) dNew := SimD.mk pe_dnewK (fun w d σ Q s e h p hp => h w p [] rfl (Stp.refl w) s rfl .nil hp)
def evalP : List (FE × FE) → En → Sto → R (List (Key × U))
  | [], _, S => .ok [] S
  | (fk, fv) :: r, d, S => match fk d S with
    | .ok x S1 => match fv d S1 with
      | .ok y S2 => match evalP r d S2 with
        | .ok ps S3 => match keyU x with
          | some k => .ok ((k, y) :: ps) S3
          | none => .bad
        | _ => .bad
      | _ => .bad
    | _ => .bad
def SimP (X : Cx) (Wx : WX) (pos : Pos) (keys : List (Option Expr)) (values : List Expr) (fs : List (FE × FE)) : Prop := PPs X pos keys values (fs.map fun p => (tE X Wx p.1, tE X Wx p.2))
theorem sp_nil : SimP X Wx pos [] [] [] := pps_nil
theorem sp_cons {k v : Expr} {ks : List (Option Expr)} {vs : List Expr} {fk fv : FE} {fs : List (FE × FE)} (hk : SimE X Wx k fk) (hv : SimE X Wx v fv) (hr : SimP X Wx pos ks vs fs) : SimP X Wx pos (some k :: ks) (v :: vs) ((fk, fv) :: fs) := pps_cons hk hv hr
theorem evalP_ok : ∀ {fs : List (FE × FE)} {w : Wd} {d : En} {σ : L2.St} {Q : List (V × V) → Hp → Prop}, SR X.K w → ER X.K w d σ →
    Pst (evalP fs d w.S) (fun ps S' => ∀ (w' : Wd) (vs : List V), w'.S = S' → Stp w w' → SR X.K w' → VRs X.K w' (ps.map (·.2)) vs → Q (((ps.map (·.1)).map kV).zip vs) w'.H) (fun _ _ => False) → tPairs (fs.map fun p => (tE X Wx p.1, tE X Wx p.2)) σ w.H Q
  | [], w, d, σ, Q, s, e, h => h w [] rfl (Stp.refl w) s .nil
  | (fk, fv) :: r, w, d, σ, Q, s, e, h => by
    unfold evalP at h
    split at h
    · rename_i x S1 hx
      refine ⟨w, d, rfl, s, e, ?_⟩
      show Pst (fk d w.S) _ _
      rw [hx]
      intro w1 v1 eS1 st1 s1 r1
      rw [← eS1] at h
      split at h
      · rename_i y S2 hy
        refine ⟨w1, d, rfl, s1, e.ext st1.x s, ?_⟩
        show Pst (fv d w1.S) _ _
        rw [hy]
        intro w2 v2 eS2 st2 s2 r2
        rw [← eS2] at h
        refine evalP_ok (d := d) s2 ((e.ext st1.x s).ext st2.x s1) ?_
        split at h
        · rename_i ps S3 hp
          rw [hp]
          intro w3 vs eS3 st3 s3 rs
          split at h
          · rename_i k hk
            have hv1 := keyU_ok r1 hk
            have h3 := h w3 (v2 :: vs) eS3 ((st1.trans st2).trans st3) s3 (.cons (r2.ext st3.x s2) rs)
            rw [hv1]
            exact h3
          · exact h.elim
        · exact h.elim
      · exact h.elim
    · exact h.elim
def dDisp (fs : List (FE × FE)) : FD := fun d S => match evalP fs d S with
  | .ok ps S1 => guard (decide (ps.length ≤ 15)) (.ok (mergeU ([], []) ps) S1)
  | _ => .bad
theorem sd_disp {keys : List (Option Expr)} {values : List Expr} {fs : List (FE × FE)} (h : SimP X Wx pos keys values fs) (hall : keys.all (·.isSome) = true := by rfl) (hl : keys.length = values.length := by rfl) (h0 : keys ≠ [] := by intro z; cases z)
    (hn : keys.length ≤ 15 := by decide) : SimD X Wx (.Dict keys values pos) (dDisp fs) := by
  refine SimD.mk (pe_disp h hall hl h0 hn) (fun w d σ Q s e h => ?_)
  intro p hp
  have sh := s.hold (o := .dK []) hp (.inr ⟨_, rfl⟩)
  have xh := Ext.hold s (o := .dK []) hp
  have np : p ∉ w.r := fun z => s.tracked (.inl z) hp
  refine evalP_ok (w := w.hold p (.dK [])) (d := d) sh (e.ext xh s) ?_
  show Pst (evalP fs d w.S) _ _
  unfold dDisp at h
  split at h
  · rename_i ps S1 hps
    rw [hps]
    obtain ⟨hlen, h⟩ := guard_post h
    intro w1 vs eS st1 s1 rs
    have hpr : p ∈ w1.r := by rw [st1.r]; exact List.mem_cons_self
    have ep : w1.H p = some (.dK []) := (st1.k p List.mem_cons_self).trans upd_same
    refine ⟨ep, (ps.map (·.1)).zip vs, ?_, ?_, ?_⟩
    · have : ∀ (ks : List Key) (vs : List V), (ks.map kV).zip vs = (ks.zip vs).map fun kv => (kV kv.1, kv.2) := fun ks => by
        induction ks with
        | nil => intro vs; rfl
        | cons k ks ih =>
          intro vs
          cases vs with
          | nil => rfl
          | cons v vs => rw [List.map_cons, List.zip_cons_cons, List.zip_cons_cons, List.map_cons, ih]
      exact this _ _
    · rw [List.length_zip, List.length_map]
      exact Nat.le_trans (Nat.min_le_left _ _) (of_decide_eq_true hlen)
    · obtain ⟨xs', em, rm, lm⟩ := merge_ok (ks := []) (us := []) (xs := []) (rs.cut (.inl hpr) ep (.inr ⟨_, rfl⟩)) rfl .nil
      have em' : mergeK [] ((ps.map (·.1)).zip vs) = (mergeU ([], []) ps).1.zip xs' := em
      rw [em']
      have hq := h (w1.cut p) p xs' eS ⟨(xh.trans st1.x).cut hp, ?_, fun a ha => ?_⟩ (s1.cut hpr) lm rm cut_D
      · have hb : upd (w1.cut p).H p (.dK ((mergeU ([], []) ps).1.zip xs')) = upd w1.H p (.dK ((mergeU ([], []) ps).1.zip xs')) := by
          funext b
          by_cases eb : b = p
          · subst eb; rw [upd_same, upd_same]
          · rw [upd_ne eb, upd_ne eb, cut_at eb]
        rw [hb] at hq
        exact hq
      · show w1.r.filter _ = w.r
        rw [st1.r]
        exact let_go_r np
      · rw [cut_at fun z => np (by rw [← z]; exact ha), st1.k a (List.mem_cons_of_mem _ ha)]
        show upd w.H p _ a = w.H a
        rw [upd_ne fun z => np (by rw [← z]; exact ha)]
  · exact h.elim

/-! ### o[i] = v -/
def stU (o i v : U) (S : Sto) : Option Sto := match o with
  | .loc n => match S[n]? with
    | some (.lst us) => match i with
      | .int k => (ixN us.length k).map fun j => S.set n (.lst (us.set j v))
      | _ => none
    | some (.dic ks us) => match keyU i with
      | some k => if ks.length < sizeLine then some (S.set n (.dic (putU ks us k v).1 (putU ks us k v).2)) else none
      | none => none
    | _ => none
  | _ => none
theorem set_any (hu : X.A.units + 1 < cLine) : PSet X (fun o i v H Q => rSetL o i v H Q ∨ ∃ a H', o = .ref a ∧ DPut H a i v H' ∧ Q H') := by
  intro pins s σ H o i v ov iv u Q I ro ri rv h
  rcases h with h | ⟨a, H', rfl, g, q⟩
  · exact set_list pins s σ H o i v ov iv u Q I ro ri rv h
  · cases ro
    exact d_setItem hu I g ri rv fun s' I' => ⟨H', I', q⟩
def fStore (fe fo fi : FE) : FS := fun d S => toS d (fe d S) fun v S1 => toS d (fo d S1) fun o S2 => toS d (fi d S2) fun i S3 => match stU o i v S3 with
  | some S4 => .ok (.nx d) S4
  | none => .bad
theorem ss_store {e o i : Expr} {fe fo fi : FE} {p2 : Pos} (hu : X.A.units + 1 < cLine) (he : SimE X Wx e fe) (ho : SimE X Wx o fo) (hi : SimE X Wx i fi)
    (ha : ∀ v, assign (.Subscript o i p2) X.env v = (do
      let ov ← holding [v] (eval o X.env)
      let iv ← holding [v, ov] (eval i X.env)
      standAt p2
      holding [v, ov, iv] (setItem ov iv v)
      release [v, ov, iv] []) := by intro _; rfl)
    (hs : swapsWithSole [.Subscript o i p2] e pos.line X.env = pure false := by rfl) (hw : swappedStores [.Subscript o i p2] e X.env = pure none := by rfl)
    (h1 : (assignEach [.Subscript o i p2] X.env).map (·.2) = [assign (.Subscript o i p2) X.env] := by rfl) : SimS X Wx (.Assign [.Subscript o i p2] e pos) (fStore fe fo fi) := by
  obtain ⟨te, pe, he⟩ := he.out
  obtain ⟨to, po, ho⟩ := ho.out
  obtain ⟨ti, pi, hi⟩ := hi.out
  refine SimS.mk (ps_asg pe (pg_sub po pi (set_any hu) ha) hs hw h1) (fun w d σ D s e h => ?_)
  refine he w d σ _ s e ((toS_post s e h).mono (fun v S1 h1 w1 vv eS st s1 rv => ?_) fun _ _ q => q)
  subst eS
  have e1 := e.ext st.x s
  refine ho w1 d σ _ s1 e1 ((toS_post s1 e1 (Pst.mono h1 (fun _ _ q => q.up st) fun _ _ q => q)).mono (fun ou S2 h2 w2 vo eS2 st2 s2 ro => ?_) fun _ _ q => q)
  subst eS2
  have e2 := e1.ext st2.x s1
  refine hi w2 d σ _ s2 e2 ((toS_post s2 e2 (Pst.mono h2 (fun _ _ q => q.up st2) fun _ _ q => q)).mono (fun iu S3 h3 w3 vi eS3 st3 s3 ri => ?_) fun _ _ q => q)
  subst eS3
  have ro3 := ro.ext st3.x s2
  have rv3 := (rv.ext st2.x s1).ext st3.x s2
  have e3 := e2.ext st3.x s2
  have fin : ∀ {w4 : Wd}, Stp w3 w4 → SR X.K w4 → OkS X Wx w2 D (.nx d) w4.S → D.nx σ w4.H := fun {w4} st4 s4 q => q w4 rfl (st3.trans st4) s4 σ (e3.ext st4.x s3)
  split at h3
  · rename_i S4 hS4
    unfold stU at hS4
    split at hS4
    · rename_i n
      cases ro3 with
      | @loc _ a hm =>
        split at hS4
        · rename_i us hS
          split at hS4
          · rename_i k
            cases ri
            cases hj : ixN us.length k with
            | none => rw [hj] at hS4; cases hS4
            | some j =>
              rw [hj] at hS4
              cases hS4
              obtain ⟨xs, q, rs⟩ := s3.obj n a _ hm hS
              have st4 : Stp w3 (w3.put n a (.lst (xs.set j vv)) (.lst (us.set j v))) := Stp.put s3 hm hS (by intro z; cases z)
              exact .inl ⟨a, xs, k, j, rfl, rfl, q, by rw [← rs.length]; exact hj, fin st4 (s3.put hm hS (by intro z; cases z) ⟨_, upd_same, (rs.set rv3 j).ext st4.x s3⟩) h3⟩
          · cases hS4
        · rename_i ks us hS
          split at hS4
          · rename_i k hk
            split at hS4
            · rename_i hl
              cases hS4
              obtain ⟨xs, q, l, rs⟩ := s3.obj n a _ hm hS
              rw [keyU_ok ri hk]
              obtain ⟨xs', ep, rs', l'⟩ := put_ok (k := k) rv3 l rs
              have st4 : Stp w3 (w3.put n a (.dK ((putU ks us k v).1.zip xs')) (.dic (putU ks us k v).1 (putU ks us k v).2)) := Stp.put s3 hm hS (by intro z; cases z)
              refine .inr ⟨a, _, rfl, DPut.k q (by rw [zip_len l rs]; exact hl), ?_⟩
              rw [ep]
              exact fin st4 (s3.put hm hS (by intro z; cases z) ⟨_, upd_same, l', rs'.ext st4.x s3⟩) h3
            · cases hS4
          · cases hS4
        · cases hS4
    · cases hS4
  · exact h3.elim
end
end DL

set_option Elab.async false
set_option linter.all false
set_option maxRecDepth 100000
namespace DL
open PySem PySem.Spec L2
def fB (f : FE) : FT := fun d S => asB (f d S)
def fNever : FS := fun _ _ => .bad
section
variable {X : Cx} {Wx : WX} {pos : Pos}
theorem ss_never {st : Stmt} : SimS X Wx st fNever := SimS.mk ps_never (fun w d σ D s e h => h.elim)
theorem ss_doc {x j p2} : SimS X Wx (.Expr (.Constant (.str x) j p2) pos) fNop := SimS.mk ps_doc (fun w d σ D s e h => h w rfl (Stp.refl w) s σ e)

theorem se_ty (n : String) {x : Str} (hg : Gl X x) (hm : X.mg x = none) (hv : bootBuiltins x = some (.type n)) (hn : x ≠ "__name__" := by decide) (hd : (x == ("__debug__" : Str)) = false := by decide) : SimE X Wx (.Name x pos) (fC (.ty n)) :=
  se_bltn hg hm hv (v := .ty n) rfl (fun _ => .ty n) hn hd
/-! ### dicts of the module, keys texts -/
inductive TabOk (K : PySem.W.Frag) : List DictEntry → List (Str × U) → Prop
  | nil : TabOk K [] []
  | cons {e : DictEntry} {es : List DictEntry} {k : Str} {t : Tok} {v : V} {u : U} {tab : List (Str × U)} : e.key = .str k t → RelV v e.val → (∀ w, VR K w u v) → TabOk K es tab → TabOk K (e :: es) ((k, u) :: tab)
theorem TabOk.i {K : PySem.W.Frag} {e : DictEntry} {es : List DictEntry} {k : Str} {t tk : Tok} {i : Int} {tab : List (Str × U)} (hk : e.key = .str k t) (hv : e.val = .int i tk) (r : TabOk K es tab) : TabOk K (e :: es) ((k, .int i) :: tab) := .cons hk (v := .int i) ⟨tk, hv⟩ (fun _ => .int i) r
theorem TabOk.s {K : PySem.W.Frag} {e : DictEntry} {es : List DictEntry} {k x : Str} {t tk : Tok} {tab : List (Str × U)} (hk : e.key = .str k t) (hv : e.val = .str x tk) (r : TabOk K es tab) : TabOk K (e :: es) ((k, .str x) :: tab) := .cons hk (v := .str x) ⟨tk, hv⟩ (fun _ => .str x) r
structure KTab (K : PySem.W.Frag) (wd : World) (a : Addr) (tab : List (Str × U)) : Prop where
  ex : ∃ (es : List DictEntry) (n : Nat), KDict K wd a es.toArray n ∧ TabOk K es tab
def lookT : List (Str × U) → Str → Option U
  | [], _ => none
  | (k, u) :: r, z => if k = z then some u else lookT r z
theorem tab_find {K : PySem.W.Frag} {z : Str} : ∀ {es : List DictEntry} {tab : List (Str × U)}, TabOk K es tab →
    (lookT tab z = none → findBy Value.isStrOf es.toArray z = none) ∧ ∀ u, lookT tab z = some u → ∃ val v, findBy Value.isStrOf es.toArray z = some val ∧ RelV v val ∧ ∀ w, VR K w u v
  | _, _, .nil => ⟨fun _ => rfl, fun u h => by cases h⟩
  | _, _, .cons (e := e) (es := es) (k := k) (t := t) (u := u) (tab := tab) hk hv hr ht => by
    have hf : findBy Value.isStrOf (e :: es).toArray z = if k = z then some e.val else findBy Value.isStrOf es.toArray z := by
      unfold findBy
      rw [List.find?_toArray, List.find?_toArray, List.find?_cons]
      have hb : Value.isStrOf z e.key = decide (k = z) := by
        rw [hk]
        by_cases q : k = z
        · subst q; rw [decide_eq_true rfl]; simp [Value.isStrOf]
        · rw [decide_eq_false q]; simp [Value.isStrOf, q]
      rw [hb]
      by_cases q : k = z
      · rw [if_pos q, decide_eq_true q]; rfl
      · rw [if_neg q, decide_eq_false q]
    rw [hf]
    unfold lookT
    by_cases q : k = z
    · rw [if_pos q, if_pos q]
      exact ⟨fun h => (nomatch h), fun y h => (by cases h; exact ⟨e.val, _, rfl, hv, hr⟩)⟩
    · rw [if_neg q, if_neg q]
      exact tab_find ht
def fWget (tab : List (Str × U)) (f : FE) : FE := fun d S => (f d S).bind fun u S1 => match u with
  | .str z => .ok ((lookT tab z).getD .non) S1
  | _ => .bad
def fWix (tab : List (Str × U)) (f : FE) : FE := fun d S => (f d S).bind fun u S1 => match u with
  | .str z => match lookT tab z with
    | some y => .ok y S1
    | none => .bad
  | _ => .bad
theorem kd_at {pins : List (Addr × Obj)} {σ : L2.St} {H : Hp} {s : Shared} {a : Addr} {es : Array DictEntry} {n : Nat} (I : Inv X pins σ H s) (D : KDict X.K X.w a es n) : ∀ b, Value.ref a = .ref b → ∃ ob, s.heap.get? b = some ob ∧ ob.dict = none := fun b e => by
  cases e
  exact ⟨_, I.kIn _ _ D.at_, rfl⟩
theorem pe_wget {x : Str} {p apos cpos : Pos} {a : Addr} {tab : List (Str × U)} {e : Expr} {te : TE} (D : KTab X.K X.w a tab) (hg : Gl X x) (hm : X.mg x = some (.ref a)) (he : PE X e te) (m : M1 X (.Name x p) "get" apos e cpos) (hd : (x == ("__debug__" : Str)) = false) :
    PE X (.Call (.Attribute (.Name x p) "get" apos) [e] [] cpos) (fun σ H Q => te σ H fun y H1 => ∃ z, y = .str z ∧ (lookT tab z = none → Q .non H1) ∧ ∀ u, lookT tab z = some u → ∀ v, (∀ w, VR X.K w u v) → Q v H1) := by
  obtain ⟨es, n, D, ht⟩ := D.ex
  refine ⟨fun pins s σ H Q I h => ?_⟩
  refine wpAny_Call_method m.base m.few m.line PySem.F.plainAttrs_dict PySem.F.slot_dict_get PySem.F.type_dict_get (ld_glob I hg hm ⟨kd_type D I, kd_at I D, ?_⟩ hd)
  rw [m.trees]
  refine Calls.callWith_builtin rfl (Calls.evalArgs_plain (Calls.spliced_cons (thn (he.run pins s σ H _ I h) fun iv s2 ⟨y, H2, I2, ry, z, ez, q1, q2⟩ => Calls.spliced_nil ?_)))
  subst ez
  obtain ⟨t, rfl⟩ := ry
  have hmap := PySem.W.mapOf_K (prog := X.prog) (w := X.w) I2.kIn D.at_ D.lit
  refine call_meetsIn PySem.F.slot_dict_get hmap.typeIs PySem.F.entry_dict_get (PySem.F.args_dict_get_2 _ _) (meets_dict_get (strKind X.prog X.w) a (PySem.strKind_is X.prog X.w z t) D.low) ⟨_, hmap, ?_⟩
  obtain ⟨f1, f2⟩ := tab_find (z := z) ht
  cases hl : lookT tab z with
  | none =>
    rw [f1 hl]
    exact ⟨.non, H2, I2.tok _, rfl, q1 hl⟩
  | some u =>
    obtain ⟨val, v, e1, e2, e3⟩ := f2 u hl
    rw [e1]
    exact ⟨v, H2, I2.tok _, e2, q2 u hl v e3⟩
theorem se_wget {x : Str} {p apos cpos : Pos} {a : Addr} {tab : List (Str × U)} {e : Expr} {f : FE} (D : KTab X.K X.w a tab) (hg : Gl X x) (hm : X.mg x = some (.ref a)) (he : SimE X Wx e f)
    (m : M1 X (.Name x p) "get" apos e cpos := by exact ⟨rfl, rfl, rfl, rfl⟩) (hd : (x == ("__debug__" : Str)) = false := by decide) : SimE X Wx (.Call (.Attribute (.Name x p) "get" apos) [e] [] cpos) (fWget tab f) := by
  obtain ⟨t, pe, he⟩ := he.out
  refine SimE.mk (pe_wget D hg hm pe m hd) (fun w d σ Q s e h => ?_)
  refine he w d σ _ s e ((Pst.of_bind h).mono (fun u S1 h1 w1 v eS st s1 r => ?_) fun _ _ q => q)
  cases r with
  | str z =>
    refine ⟨z, rfl, fun hl => ?_, fun u hl v hv => ?_⟩
    · have h1 : OkE X w Q ((lookT tab z).getD .non) S1 := h1
      rw [hl] at h1
      exact h1 w1 .non eS st s1 .non
    · have h1 : OkE X w Q ((lookT tab z).getD .non) S1 := h1
      rw [hl] at h1
      exact h1 w1 v eS st s1 (hv w1)
  | _ => exact h1.elim

/-! ### the ends -/
theorem cx_none {P : Program} {w : World} {outer : List Env} {H : Hp} {s : Shared} {e : Value} {s' : Shared} (h : L2.CX P w outer H s (fun _ _ _ => False) e s') : False := by
  obtain ⟨_, _, _, _, _, _, _, _, _, _, _, _, z⟩ := h
  exact z
def spLaw (K : PySem.W.Frag) (n : Nat) : Sp := fun vs H Q _ => ∃ (a : Addr) (ns : List Int), vs = [.ref a] ∧ Only H ∧ SqL K H a (ns.map V.int) ∧ ns.length ≤ n ∧ ∀ H', Q (.bl true) H'
theorem ints_vr {K : PySem.W.Frag} {w : Wd} : ∀ ns : List Int, VRs K w (ns.map U.int) (ns.map V.int)
  | [] => .nil
  | n :: ns => .cons (.int n) (ints_vr ns)
theorem law_of {P : Program} {w : World} {K : PySem.W.Frag} {mg : Str → Option Value} {base : Heap} {k n : Nat} {f : Addr} {fd : FuncData} {ps : List Str} {g : List U → Sto → R U}
    (F : FnOk P w K mg base (L2.CX P w) k f fd ps (spOf K mg 1 g)) (hg : ∀ ns : List Int, ns.length ≤ n → ∃ S', g [.frz (ns.map .int)] [] = .ok (.bl true) S') : FnOk P w K mg base (L2.CX P w) k f fd ps (spLaw K n) := by
  refine F.imp fun vs H Q E h => ?_
  obtain ⟨a, ns, rfl, ho, hq, hl, q⟩ := h
  obtain ⟨S', e⟩ := hg ns hl
  have fz : FzL K H a (ns.map V.int) := by
    rcases hq with (h | h) | h
    · rcases ho a with z | ⟨o, xs, z⟩
      · rw [h] at z; cases z
      · rw [h] at z; cases z
    · exact .inl h
    · exact .inr h
  refine ⟨⟨[], [], H, []⟩, [.frz (ns.map .int)], rfl, ⟨rfl, fun i j a o o' h1 => (by simp at h1), fun n a o h1 => (by simp at h1), fun a h => (by simp at h), fun a h => (by simp at h)⟩, .cons (.frz fz (ints_vr ns)) .nil, rfl, ?_⟩
  rw [e]
  intro w' v _ _ _ r
  cases r
  exact q _
theorem fn_zero {P : Program} {w : World} {K : PySem.W.Frag} {mg : Str → Option Value} {base : Heap} {f : Addr} {fd : FuncData} {ps : List Str} {g : List U → Sto → R U} (hg : ∀ us S, g us S = .bad) (n : Nat) : FnOk P w K mg base (L2.CX P w) 0 f fd ps (spOf K mg n g) := by
  have no : ∀ vs H Q E, ¬ spOf K mg n g vs H Q E := fun vs H Q E ⟨w, us, _, _, _, _, q⟩ => by rw [hg] at q; exact q
  exact ⟨fun vs H Q E h => (no vs H Q E h).elim, fun A outer s H as us vs Q E _ _ _ _ h => (no vs H Q E h).elim⟩
end
end DL

set_option Elab.async false
set_option linter.all false
set_option maxRecDepth 100000
namespace DL
open PySem PySem.Spec L2

/-! ### it goes well, and Q holds behind -/
def Y {α : Type} (r : R α) (Q : α → Sto → Prop) : Prop := Pst r Q (fun _ _ => False)
theorem Y.ok {α : Type} {r : R α} {Q : α → Sto → Prop} (h : Y r Q) : ∃ a S, r = .ok a S ∧ Q a S := by
  cases r with
  | ok a S => exact ⟨a, S, rfl, h⟩
  | exc x S => exact h.elim
  | bad => exact h.elim
theorem Y.of {α : Type} {r : R α} {Q : α → Sto → Prop} {a : α} {S : Sto} (e : r = .ok a S) (h : Q a S) : Y r Q := by rw [e]; exact h
theorem Y.mono {α : Type} {r : R α} {P Q : α → Sto → Prop} (h : Y r P) (q : ∀ a S, P a S → Q a S) : Y r Q := Pst.mono h q fun _ _ z => z
theorem y_ok {α : Type} {a : α} {S : Sto} {Q : α → Sto → Prop} (h : Q a S) : Y (.ok a S) Q := h
theorem y_bind {α β : Type} {r : R α} {k : α → Sto → R β} {Q : β → Sto → Prop} (h : Y r fun a S => Y (k a S) Q) : Y (r.bind k) Q := by
  cases r with
  | ok a S => exact h
  | exc x S => exact h.elim
  | bad => exact h.elim
theorem y_guard {α : Type} {c : Bool} {r : R α} {Q : α → Sto → Prop} (hc : c = true) (h : Y r Q) : Y (guard c r) Q := by rw [hc]; exact h
section
variable {d : En} {S : Sto} {Q : U → Sto → Prop} {QB : Bool → Sto → Prop} {QA : List U → Sto → Prop} {fa fb fc f : FE} {ta tb : FT} {u : U} {i : Nat}
theorem y_C (h : Q u S) : Y (fC u d S) Q := h
theorem y_var (e : d[i]? = some (some u)) (h : Q u S) : Y (fVar i d S) Q := by unfold fVar; rw [e]; exact h
theorem y_f2 {g : U → U → Sto → R U} (h : Y (fa d S) fun x S1 => Y (fb d S1) fun y S2 => Y (g x y S2) Q) : Y (f2 g fa fb d S) Q := y_bind (h.mono fun x S1 h1 => y_bind h1)
theorem y_f1 {g : U → Sto → R U} (h : Y (fa d S) fun x S1 => Y (g x S1) Q) : Y (f1 g fa d S) Q := y_bind h
def unB (u : U) (S : Sto) : R Bool := match u with
  | .bl b => .ok b S
  | _ => .bad
theorem y_asB {r : R U} (h : Y r fun u S1 => Y (unB u S1) QB) : Y (asB r) QB := y_bind h
theorem y_unB {b : Bool} (h : QB b S) : Y (unB (.bl b) S) QB := h
theorem y_B (h : Y (f d S) fun u S1 => Y (unB u S1) QB) : Y (fB f d S) QB := y_asB h
theorem y_ch {g g' : U → U → Sto → R U} (h : Y (fa d S) fun x S1 => Y (fb d S1) fun y S2 => Y (g x y S2) fun z S3 => Y (unB z S3) fun b S4 => if b = true then Y (fc d S4) fun t S5 => Y (g' y t S5) Q else Q (.bl false) S4) : Y (fCh g g' fa fb fc d S) Q := by
  refine y_bind (h.mono fun x S1 h1 => y_bind (h1.mono fun y S2 h2 => y_bind (h2.mono fun z S3 h3 => ?_)))
  cases z with
  | bl b =>
    cases b with
    | true => exact y_bind (show Y (fc d S3) _ from h3)
    | false => exact h3
  | _ => exact h3.elim
theorem y_tru (h : Y (f d S) fun u S1 => Y (oB (truU u S1) S1) QB) : Y (fTru f d S) QB := y_bind h
theorem y_oB {o : Option Bool} {b : Bool} (e : o = some b) (h : QB b S) : Y (oB o S) QB := by rw [e]; exact h
theorem y_tbl {b : Bool} (h : QB b S) : Y (oB (truU (.bl b) S) S) QB := h
theorem y_and (h : Y (ta d S) fun b S1 => if b = true then Y (tb d S1) QB else QB false S1) : Y (fAnd ta tb d S) QB := y_bind (h.mono fun b S1 h1 => by cases b <;> exact h1)
theorem y_or (h : Y (ta d S) fun b S1 => if b = true then QB true S1 else Y (tb d S1) QB) : Y (fOr ta tb d S) QB := y_bind (h.mono fun b S1 h1 => by cases b <;> exact h1)
theorem y_not (h : Y (ta d S) fun b S1 => QB (!b) S1) : Y (fNot ta d S) QB := y_bind h
theorem y_andV (h : Y (fa d S) fun u S1 => Y (oB (truU u S1) S1) fun b S2 => if b = true then Y (fb d S2) Q else Q u S2) : Y (fAndV fa fb d S) Q := y_bind (h.mono fun u S1 h1 => by
  cases e : truU u S1 with
  | none => rw [e] at h1; exact h1.elim
  | some b => rw [e] at h1; cases b <;> exact h1)
theorem y_orV (h : Y (fa d S) fun u S1 => Y (oB (truU u S1) S1) fun b S2 => if b = true then Q u S2 else Y (fb d S2) Q) : Y (fOrV fa fb d S) Q := y_bind (h.mono fun u S1 h1 => by
  cases e : truU u S1 with
  | none => rw [e] at h1; exact h1.elim
  | some b => rw [e] at h1; cases b <;> exact h1)
theorem y_notV (h : Y (fa d S) fun u S1 => Y (oB (truU u S1) S1) fun b S2 => Q (.bl (!b)) S2) : Y (fNotV fa d S) Q := y_bind (h.mono fun u S1 h1 => by
  cases e : truU u S1 with
  | none => rw [e] at h1; exact h1.elim
  | some b => rw [e] at h1; exact h1)
theorem y_if {α : Type} {Q : α → Sto → Prop} {x y : En → Sto → R α} (h : Y (ta d S) fun b S1 => if b = true then Y (x d S1) Q else Y (y d S1) Q) : Y (fIf ta x y d S) Q := y_bind (h.mono fun b S1 h1 => by cases b <;> exact h1)
theorem y_nil (h : QA [] S) : Y (aNil d S) QA := h
theorem y_cons {g : FA} (h : Y (f d S) fun u S1 => Y (g d S1) fun us S2 => QA (u :: us) S2) : Y (aCons f g d S) QA := y_bind (h.mono fun u S1 h1 => y_bind h1)
theorem y_tup {g : FA} (h : Y (g d S) fun us S1 => us.length ≤ sizeLine ∧ Q (.tup us) S1) : Y (fTup g d S) Q := y_bind (h.mono fun us S1 h1 => by rw [if_pos h1.1]; exact h1.2)
theorem y_lst {g : FA} (h : Y (g d S) fun us S1 => us.length ≤ sizeLine ∧ QA us S1) : Y (aLst g d S) QA := y_bind (h.mono fun us S1 h1 => by rw [if_pos h1.1]; exact h1.2)
theorem y_val {g : FA} (h : Y (g d S) fun us S1 => Q (.lst us) S1) : Y (fVal g d S) Q := y_bind h
theorem y_loc {g : FA} (h : Y (g d S) fun us S1 => Q (.loc S1.length) (S1 ++ [.lst us])) : Y (fLoc g d S) Q := y_bind h
theorem y_dval {g : FD} (h : Y (g d S) fun p S1 => Q (.dic p.1 p.2) S1) : Y (fDval g d S) Q := y_bind h
theorem y_dloc {g : FD} (h : Y (g d S) fun p S1 => Q (.loc S1.length) (S1 ++ [.dic p.1 p.2])) : Y (fDloc g d S) Q := y_bind h
theorem y_ice (h : Y (f d S) fun u S1 => ∃ n us, u = .loc n ∧ S1[n]? = some (.lst us) ∧ Q (.lst us) (S1.set n .dead)) : Y (fIce f d S) Q := y_bind (h.mono fun u S1 ⟨n, us, e, e2, h1⟩ => by
  subst e
  show Y (match S1[n]? with
    | some (.lst us) => .ok (.lst us) (S1.set n .dead)
    | some (.dic ks us) => .ok (.dic ks us) (S1.set n .dead)
    | _ => .bad) Q
  rw [e2]
  exact h1)
theorem y_oNone {QO : Option Int → Sto → Prop} (h : QO none S) : Y (oNone d S) QO := h
theorem y_oSome {QO : Option Int → Sto → Prop} (h : Y (f d S) fun u S1 => ∃ i, u = .int i ∧ QO (some i) S1) : Y (oSome f d S) QO := y_bind (h.mono fun u S1 ⟨i, e, h1⟩ => by subst e; exact h1)
theorem y_sl {l h' : FO} (h : Y (f d S) fun u S1 => Y (l d S1) fun lo S2 => Y (h' d S2) fun hi S3 => Y (oU (slB u lo hi S3) S3) Q) : Y (fSl f l h' d S) Q := y_bind (h.mono fun u S1 h1 => y_bind (h1.mono fun lo S2 h2 => y_bind h2))
theorem y_oU {o : Option U} (e : o = some u) (h : Q u S) : Y (oU o S) Q := by rw [e]; exact h
theorem y_A {α : Type} {g : List U → Sto → R α} {fa : FA} {Q : α → Sto → Prop} (h : Y (fa d S) fun us S1 => Y (g us S1) Q) : Y (fA g fa d S) Q := y_bind h
theorem y_call {n : Nat} {g : List U → Sto → R U} {fa : FA} (h : Y (fa d S) fun us S1 => (us.length == n) = true ∧ Y (g us S1) Q) : Y (fCall n g fa d S) Q := y_bind (h.mono fun us S1 h1 => y_guard h1.1 h1.2)
theorem y_M {T : String} {g : U → List U → Sto → R U} {fo : FE} {fa : FA} (h : Y (fo d S) fun u S1 => tyU T u S1 = true ∧ Y (fa d S1) fun us S2 => Y (g u us S2) Q) : Y (fM T g fo fa d S) Q := y_bind (h.mono fun u S1 h1 => y_guard h1.1 (y_bind h1.2))
theorem y_wget {tab : List (Str × U)} (h : Y (f d S) fun u S1 => ∃ z, u = .str z ∧ Q ((lookT tab z).getD .non) S1) : Y (fWget tab f d S) Q := y_bind (h.mono fun u S1 ⟨z, e, h1⟩ => by subst e; exact h1)
theorem y_over {p : U → Option (List U)} (h : Y (f d S) fun u S1 => ∃ us, p u = some us ∧ QA us S1) : Y (aOver p f d S) QA := y_bind (h.mono fun u S1 ⟨us, e, h1⟩ => by
  show Y (match p u with
    | some us => .ok us S1
    | none => .bad) QA
  rw [e]
  exact h1)
theorem y_rng1 {g : FA} (h : Y (g d S) fun us S1 => ∃ j, us = [.int j] ∧ -(2 ^ 62) ≤ j ∧ j < 2 ^ 62 ∧ QA (rngU 0 1 j.toNat) S1) : Y (aRng1 g d S) QA := y_bind (h.mono fun us S1 ⟨j, e, h1, h2, h3⟩ => by
  subst e
  exact y_guard (by rw [decide_eq_true h1, decide_eq_true h2]; rfl) h3)

/-! ### operators of known kinds -/
theorem y_addI {i j : Int} (h : Q (.int (i + j)) S) : Y (addU (.int i) (.int j) S) Q := h
theorem y_addS {x y : Str} (hl : x.length + y.length ≤ sizeLine) (h : Q (.str (x ++ y)) S) : Y (addU (.str x) (.str y) S) Q := y_guard (decide_eq_true hl) h
theorem y_addT {x y : List U} (hl : x.length + y.length ≤ sizeLine) (h : Q (.tup (x ++ y)) S) : Y (addU (.tup x) (.tup y) S) Q := y_guard (decide_eq_true hl) h
theorem y_addL {x y : List U} (hl : x.length + y.length ≤ sizeLine) (h : Q (.lst (x ++ y)) S) : Y (addU (.lst x) (.lst y) S) Q := y_guard (decide_eq_true hl) h
theorem y_subI {i j : Int} (h : Q (.int (i - j)) S) : Y (subU (.int i) (.int j) S) Q := h
theorem y_mulI {i j : Int} (hm : mulOk i j = true) (h : Q (.int (i * j)) S) : Y (mulU (.int i) (.int j) S) Q := y_guard hm h
theorem y_mulL {x : List U} {k : Int} (h1 : -(2 ^ 63) ≤ k) (h2 : k < 2 ^ 63) (h3 : x.length * k.toNat ≤ sizeLine) (h : Q (.lst (List.replicate k.toNat x).flatten) S) : Y (mulU (.lst x) (.int k) S) Q := y_guard (by rw [decide_eq_true h1, decide_eq_true h2, decide_eq_true h3]; rfl) h
theorem y_fdivI {i j : Int} (h1 : 0 < j) (h2 : j.natAbs.log2 < 9000) (h : Q (.int (i / j)) S) : Y (fdivU (.int i) (.int j) S) Q := y_guard (by simp [h1, h2]) h
theorem y_modI {i j : Int} (h1 : 0 < j) (h : Q (.int (i % j)) S) : Y (modU (.int i) (.int j) S) Q := y_guard (decide_eq_true h1) h
theorem y_powI {i j : Int} (h1 : 0 ≤ j) (h2 : j ≤ 1000000) (h3 : i.natAbs < 2 ^ 64) (h : Q (.int (i ^ j.toNat)) S) : Y (powU (.int i) (.int j) S) Q := y_guard (by simp [h1, h2, h3]) h
theorem y_ltI {i j : Int} (h : Q (.bl (decide (i < j))) S) : Y (ltU (.int i) (.int j) S) Q := h
theorem y_leI {i j : Int} (h : Q (.bl (decide (i ≤ j))) S) : Y (leU (.int i) (.int j) S) Q := h
theorem y_gtI {i j : Int} (h : Q (.bl (decide (j < i))) S) : Y (gtU (.int i) (.int j) S) Q := h
theorem y_geI {i j : Int} (h : Q (.bl (decide (j ≤ i))) S) : Y (geU (.int i) (.int j) S) Q := h
theorem y_isN {x : U} (h : Q (.bl (isNon x)) S) : Y (isU x .non S) Q := h
theorem y_isnN {x : U} (h : Q (.bl (!isNon x)) S) : Y (isnU x .non S) Q := h
theorem y_eqF {x y : U} (hs : scalU x y = true) (h : Q (.bl (eqF x y)) S) : Y (eqU x y S) Q := by
  unfold eqU eqOk; rw [hs]; exact h
theorem y_neF {x y : U} (hs : scalU x y = true) (h : Q (.bl (!eqF x y)) S) : Y (neU x y S) Q := by
  unfold neU eqOk; rw [hs]; exact h
theorem y_eqI {i j : Int} (h : Q (.bl (decide (i = j))) S) : Y (eqU (.int i) (.int j) S) Q := y_eqF rfl h
theorem y_neI {i j : Int} (h : Q (.bl (!decide (i = j))) S) : Y (neU (.int i) (.int j) S) Q := y_neF rfl h
theorem y_eqB {i j : Bool} (h : Q (.bl (i == j)) S) : Y (eqU (.bl i) (.bl j) S) Q := y_eqF rfl h
theorem y_neB {i j : Bool} (h : Q (.bl (!(i == j))) S) : Y (neU (.bl i) (.bl j) S) Q := y_neF rfl h
theorem str_beq (x y : Str) : (x == y) = decide (x = y) := by
  by_cases q : x = y
  · subst q; simp
  · rw [decide_eq_false q]; simp [q]
theorem y_eqS {x y : Str} (h : Q (.bl (decide (x = y))) S) : Y (eqU (.str x) (.str y) S) Q := y_eqF rfl (show Q (.bl (x == y)) S by rw [str_beq]; exact h)
theorem y_neS {x y : Str} (h : Q (.bl (!decide (x = y))) S) : Y (neU (.str x) (.str y) S) Q := y_neF rfl (show Q (.bl (!(x == y))) S by rw [str_beq]; exact h)

/-! ### items -/
theorem atI_mem {α : Type} {xs : List α} {i : Int} (h0 : 0 ≤ i) (h1 : i < xs.length) : ∃ x, x ∈ xs ∧ xs[i.toNat]? = some x ∧ atI xs i = some x := by
  obtain ⟨n, rfl⟩ := Int.eq_ofNat_of_zero_le h0
  have hn : n < xs.length := by omega
  refine ⟨xs[n], List.getElem_mem hn, ?_, atI_nat (List.getElem?_eq_getElem hn)⟩
  show xs[n]? = _
  exact List.getElem?_eq_getElem hn
theorem y_ixL {us : List U} {i : Int} (h0 : 0 ≤ i) (h1 : i < us.length) (h : ∀ u, u ∈ us → us[i.toNat]? = some u → Q u S) : Y (ixU (.lst us) (.int i) S) Q := by
  obtain ⟨x, hx, e1, e2⟩ := atI_mem h0 h1
  exact y_oU (show ixB (.lst us) (.int i) S = some x from e2) (h x hx e1)
theorem y_ixT {us : List U} {i : Int} (h0 : 0 ≤ i) (h1 : i < us.length) (h : ∀ u, u ∈ us → us[i.toNat]? = some u → Q u S) : Y (ixU (.tup us) (.int i) S) Q := by
  obtain ⟨x, hx, e1, e2⟩ := atI_mem h0 h1
  exact y_oU (show ixB (.tup us) (.int i) S = some x from e2) (h x hx e1)
theorem y_ixS {z : Str} {i : Int} (hz : z.length ≤ sizeLine) (h0 : 0 ≤ i) (h1 : i < z.cps.toList.length) (h : ∀ c, c ∈ z.cps.toList → z.cps.toList[i.toNat]? = some c → Q (.str ⟨#[c]⟩) S) : Y (ixU (.str z) (.int i) S) Q := by
  obtain ⟨x, hx, e1, e2⟩ := atI_mem h0 h1
  refine y_oU (u := .str ⟨#[x]⟩) ?_ (h x hx e1)
  show (if z.length ≤ sizeLine then (atI z.cps.toList i).map fun c => U.str ⟨#[c]⟩ else none) = _
  rw [if_pos hz, e2]
  rfl
end

/-! ### statements -/
structure EU where
  nx : En → Sto → Prop
  rt : U → Sto → Prop
  bk : En → Sto → Prop := fun _ _ => False
  ct : En → Sto → Prop := fun _ _ => False
  ex : Exc → En → Sto → Prop := fun _ _ _ => False
def WS (r : R Fl) (D : EU) : Prop := match r with
  | .ok (.nx d) S => D.nx d S
  | .ok (.rt u) S => D.rt u S
  | .ok (.bk d) S => D.bk d S
  | .ok (.ct d) S => D.ct d S
  | .ok (.ex x d) S => D.ex x d S
  | _ => False
section
variable {d : En} {S : Sto} {D : EU} {f : FE} {g h : FS} {t : FT} {i : Nat}
theorem ws_toS {α : Type} {r : R α} {k : α → Sto → R Fl} (h : Y r fun a S1 => WS (k a S1) D) : WS (toS d r k) D := by
  cases r with
  | ok a S => exact h
  | exc x S => exact h.elim
  | bad => exact h.elim
theorem w_nop (h : D.nx d S) : WS (fNop d S) D := h
theorem w_expr (h : Y (f d S) fun _ S1 => D.nx d S1) : WS (fExpr f d S) D := ws_toS h
theorem w_ret (h : Y (f d S) fun u S1 => D.rt u S1) : WS (fRet f d S) D := ws_toS h
theorem w_retN (h : D.rt .non S) : WS (fRetN d S) D := h
theorem w_brk (h : D.bk d S) : WS (fBrk d S) D := h
theorem w_ct (h : D.ct d S) : WS (fCt d S) D := h
theorem w_set (h : Y (f d S) fun u S1 => D.nx (d.set i (some u)) S1) : WS (fSet i f d S) D := ws_toS h
theorem w_asg {gt : U → En → Option En} (h : Y (f d S) fun u S1 => ∃ d', gt u d = some d' ∧ D.nx d' S1) : WS (fAsg gt f d S) D := ws_toS (h.mono fun u S1 ⟨d', e, h1⟩ => by
  show WS (match gt u d with
    | some d' => .ok (.nx d') S1
    | none => .bad) D
  rw [e]
  exact h1)
theorem w_seq (h1 : WS (g d S) { D with nx := fun d1 S1 => WS (h d1 S1) D }) : WS (fSeq g h d S) D := by
  unfold fSeq
  cases e : g d S with
  | ok fl S1 =>
    rw [e] at h1
    cases fl <;> exact h1
  | exc x S => rw [e] at h1; exact h1.elim
  | bad => rw [e] at h1; exact h1.elim
theorem w_if (h1 : Y (t d S) fun b S1 => if b = true then WS (g d S1) D else WS (h d S1) D) : WS (fIfS t g h d S) D := ws_toS (h1.mono fun b S1 h2 => by cases b <;> exact h2)
theorem w_store {fe fo fi : FE} (h : Y (fe d S) fun v S1 => Y (fo d S1) fun o S2 => Y (fi d S2) fun i S3 => ∃ S4, stU o i v S3 = some S4 ∧ D.nx d S4) : WS (fStore fe fo fi d S) D :=
  ws_toS (h.mono fun v S1 h1 => ws_toS (h1.mono fun o S2 h2 => ws_toS (h2.mono fun i S3 ⟨S4, e, h3⟩ => by
    show WS (match stU o i v S3 with
      | some S4 => .ok (.nx d) S4
      | none => .bad) D
    rw [e]
    exact h3)))
theorem WS.mono {r : R Fl} {D D' : EU} (h : WS r D) (h1 : ∀ d S, D.nx d S → D'.nx d S) (h2 : ∀ u S, D.rt u S → D'.rt u S) (h3 : ∀ d S, D.bk d S → D'.bk d S) (h4 : ∀ d S, D.ct d S → D'.ct d S) (h5 : ∀ x d S, D.ex x d S → D'.ex x d S) : WS r D' := by
  cases r with
  | ok fl S => cases fl with
    | nx d => exact h1 d S h
    | rt u => exact h2 u S h
    | bk d => exact h3 d S h
    | ct d => exact h4 d S h
    | ex x d => exact h5 x d S h
  | exc x S => exact h.elim
  | bad => exact h.elim
/-- a for by an invariant over what is left -/
theorem w_loop {gt : U → En → Option En} {g : FS} {D : EU} (I : List U → En → Sto → Prop)
    (h : ∀ u us d S, I (u :: us) d S → ∃ d1, gt u d = some d1 ∧ WS (g d1 S) { D with nx := I us, ct := I us, bk := D.nx }) (h0 : ∀ d S, I [] d S → D.nx d S) : ∀ (us : List U) (d : En) (S : Sto), I us d S → WS (loopF gt g us d S) D
  | [], d, S, hi => h0 d S hi
  | u :: us, d, S, hi => by
    obtain ⟨d1, e, hw⟩ := h u us d S hi
    unfold loopF
    rw [e]
    show WS (match g d1 S with
      | .ok (.nx d2) S1 => loopF gt g us d2 S1
      | .ok (.ct d2) S1 => loopF gt g us d2 S1
      | .ok (.bk d2) S1 => .ok (.nx d2) S1
      | r => r) D
    cases hg : g d1 S with
    | ok fl S1 =>
      rw [hg] at hw
      cases fl with
      | nx d2 => exact w_loop I h h0 us d2 S1 hw
      | ct d2 => exact w_loop I h h0 us d2 S1 hw
      | bk d2 => exact hw
      | rt u => exact hw
      | ex x d2 => exact hw
    | exc x S => rw [hg] at hw; exact hw.elim
    | bad => rw [hg] at hw; exact hw.elim
theorem w_for {fi : FA} {gt : U → En → Option En} {g : FS} (h : Y (fi d S) fun us S1 => WS (loopF gt g us d S1) D) : WS (fFor fi gt g d S) D := ws_toS h
/-- a while by an invariant and a number that falls -/
theorem w_while {t : FT} {g : FS} {D : EU} (I : Nat → En → Sto → Prop)
    (h : ∀ m d S, I m d S → Y (t d S) fun b S1 => if b = true then WS (g d S1) { D with nx := fun d2 S2 => ∃ m', m' < m ∧ I m' d2 S2, ct := fun d2 S2 => ∃ m', m' < m ∧ I m' d2 S2, bk := D.nx } else D.nx d S1) :
    ∀ (n m : Nat) (d : En) (S : Sto), m < n → I m d S → WS (whileF t g n d S) D
  | 0, m, d, S, hl, _ => absurd hl (Nat.not_lt_zero _)
  | n + 1, m, d, S, hl, hi => by
    unfold whileF
    refine ws_toS ((h m d S hi).mono fun b S1 h1 => ?_)
    cases b with
    | false => exact h1
    | true =>
      show WS (match g d S1 with
        | .ok (.nx d2) S2 => whileF t g n d2 S2
        | .ok (.ct d2) S2 => whileF t g n d2 S2
        | .ok (.bk d2) S2 => .ok (.nx d2) S2
        | r => r) D
      have h1 : WS (g d S1) { D with nx := fun d2 S2 => ∃ m', m' < m ∧ I m' d2 S2, ct := fun d2 S2 => ∃ m', m' < m ∧ I m' d2 S2, bk := D.nx } := h1
      cases hg : g d S1 with
      | ok fl S2 =>
        rw [hg] at h1
        cases fl with
        | nx d2 => obtain ⟨m', hm, h2⟩ := h1; exact w_while I h n m' d2 S2 (by omega) h2
        | ct d2 => obtain ⟨m', hm, h2⟩ := h1; exact w_while I h n m' d2 S2 (by omega) h2
        | bk d2 => exact h1
        | rt u => exact h1
        | ex x d2 => exact h1
      | exc x S => rw [hg] at h1; exact h1.elim
      | bad => rw [hg] at h1; exact h1.elim
/-- a comprehension by an invariant over what is left and what is made -/
theorem y_comp {gt : U → En → Option En} {t : FT} {f : FE} {d : En} {Q : List U → Sto → Prop} (I : List U → List U → Sto → Prop)
    (h : ∀ u us acc S, I (u :: us) acc S → acc.length < sizeLine ∧ ∃ d1, gt u d = some d1 ∧ Y (t d1 S) fun b S1 => if b = true then Y (f d1 S1) fun y S2 => I us (acc ++ [y]) S2 else I us acc S1) (h0 : ∀ acc S, I [] acc S → Q acc S) :
    ∀ (us acc : List U) (S : Sto), I us acc S → Y (compF gt t f d us acc S) Q
  | [], acc, S, hi => h0 acc S hi
  | u :: us, acc, S, hi => by
    obtain ⟨hl, d1, e, hy⟩ := h u us acc S hi
    unfold compF
    rw [e]
    obtain ⟨b, S1, e1, hy⟩ := hy.ok
    dsimp only
    rw [e1]
    cases b with
    | true =>
      obtain ⟨y, S2, e2, hy⟩ := Y.ok hy
      dsimp only
      rw [e2]
      exact y_guard (decide_eq_true hl) (y_comp I h h0 us _ S2 hy)
    | false => exact y_comp I h h0 us acc S1 hy
theorem y_aComp {fi : FA} {gt : U → En → Option En} {t : FT} {f : FE} {vs : List Nat} {Q : List U → Sto → Prop} (h : Y (fi d S) fun us S1 => Y (compF gt t f (wipeE d vs) us [] S1) Q) : Y (aComp fi gt t f vs d S) Q := y_bind h
/-- a def's body -/
theorem y_run {body : FS} {d : En} {S : Sto} {Q : U → Sto → Prop} (h : WS (body d S) { nx := fun _ S1 => Q .non S1, rt := Q }) : Y (runB body d S) Q := by
  unfold runB
  cases e : body d S with
  | ok fl S1 =>
    rw [e] at h
    cases fl with
    | nx d => exact h
    | rt u => exact h
    | bk d => exact h.elim
    | ct d => exact h.elim
    | ex x d => exact h.elim
  | exc x S => rw [e] at h; exact h.elim
  | bad => rw [e] at h; exact h.elim
theorem ite_b {b : Bool} {A B : Prop} (h1 : b = true → A) (h2 : b = false → B) : if b = true then A else B := by
  cases b with
  | true => exact h1 rfl
  | false => exact h2 rfl
end
end DL

set_option Elab.async false
set_option linter.all false
set_option maxRecDepth 100000
namespace DL
open PySem PySem.Spec L2
/-! ### the tape -/
def tapeO (cs : List Int) (sp lf : Int) : Ob := .dic [.inr "cells", .inr "spot", .inr "left"] [.lst (cs.map .int), .int sp, .int lf]
theorem ix_of {n : Nat} {S : Sto} {ks : List Key} {us : List U} {k : Str} {u : U} (h : S[n]? = some (.dic ks us)) (e : valU ks us (.inr k) = some u) : ixB (.loc n) (.str k) S = some u := by
  unfold ixB DL.listOf listM dictOf keyU
  simp only [h]
  exact e
theorem ix_left {n : Nat} {S : Sto} {cs : List Int} {sp lf : Int} (h : S[n]? = some (tapeO cs sp lf)) : ixB (.loc n) (.str "left") S = some (.int lf) := ix_of h rfl
theorem ix_spot {n : Nat} {S : Sto} {cs : List Int} {sp lf : Int} (h : S[n]? = some (tapeO cs sp lf)) : ixB (.loc n) (.str "spot") S = some (.int sp) := ix_of h rfl
theorem ix_cells {n : Nat} {S : Sto} {cs : List Int} {sp lf : Int} (h : S[n]? = some (tapeO cs sp lf)) : ixB (.loc n) (.str "cells") S = some (.lst (cs.map .int)) := ix_of h rfl
theorem st_of {n : Nat} {S : Sto} {ks : List Key} {us : List U} {k : Str} {v : U} {p : List Key × List U} (h : S[n]? = some (.dic ks us)) (hl : ks.length < sizeLine) (e : putU ks us (.inr k) v = p) : stU (.loc n) (.str k) v S = some (S.set n (.dic p.1 p.2)) := by
  unfold stU keyU
  simp only [h, e, if_pos hl]
theorem st_left {n : Nat} {S : Sto} {cs : List Int} {sp lf lf' : Int} (h : S[n]? = some (tapeO cs sp lf)) : stU (.loc n) (.str "left") (.int lf') S = some (S.set n (tapeO cs sp lf')) := st_of h (by decide) rfl
theorem st_spot {n : Nat} {S : Sto} {cs : List Int} {sp lf sp' : Int} (h : S[n]? = some (tapeO cs sp lf)) : stU (.loc n) (.str "spot") (.int sp') S = some (S.set n (tapeO cs sp' lf)) := st_of h (by decide) rfl
theorem y_ix {x y u : U} {S : Sto} {Q : U → Sto → Prop} (e : ixB x y S = some u) (h : Q u S) : Y (ixU x y S) Q := y_oU e h
/-- the tape at n: not read further than b -/
def Tape (n : Nat) (b : Int) (S : Sto) : Prop := ∃ cs sp lf, S[n]? = some (tapeO cs sp lf) ∧ cs.length ≤ 63 ∧ 0 ≤ sp ∧ sp ≤ b ∧ 0 ≤ lf
/-- all but those of ms stand, more may have come -/
def Fr (ms : List Nat) (S S' : Sto) : Prop := S.length ≤ S'.length ∧ ∀ m, m < S.length → m ∉ ms → S'[m]? = S[m]?
theorem Fr.refl (ms : List Nat) (S : Sto) : Fr ms S S := ⟨Nat.le_refl _, fun _ _ _ => rfl⟩
theorem Fr.trans {ms : List Nat} {S S1 S2 : Sto} (a : Fr ms S S1) (b : Fr ms S1 S2) : Fr ms S S2 := ⟨Nat.le_trans a.1 b.1, fun m h n => (b.2 m (Nat.lt_of_lt_of_le h a.1) n).trans (a.2 m h n)⟩
theorem Fr.more {ms ns : List Nat} {S S' : Sto} (a : Fr ms S S') (h : ∀ m ∈ ms, m ∈ ns) : Fr ns S S' := ⟨a.1, fun m hm hn => a.2 m hm fun q => hn (h m q)⟩
theorem Fr.set {n : Nat} {S : Sto} {o : Ob} {ms : List Nat} (h : n ∈ ms) : Fr ms S (S.set n o) := ⟨by simp, fun m _ hm => List.getElem?_set_ne fun e => hm (by rw [← e]; exact h)⟩
theorem Fr.push {S : Sto} {o : Ob} {ms : List Nat} : Fr ms S (S ++ [o]) := ⟨by simp, fun m hm _ => List.getElem?_append_left hm⟩
theorem Fr.get {ms : List Nat} {S S' : Sto} {m : Nat} {o : Ob} (a : Fr ms S S') (h : S[m]? = some o) (hm : m ∉ ms) : S'[m]? = some o := (a.2 m (List.getElem?_eq_some_iff.mp h).1 hm).trans h
theorem Tape.lt {n : Nat} {b : Int} {S : Sto} (t : Tape n b S) : n < S.length := by
  obtain ⟨_, _, _, h, _⟩ := t
  exact (List.getElem?_eq_some_iff.mp h).1
theorem Tape.mono {n : Nat} {b b' : Int} {S : Sto} (t : Tape n b S) (h : b ≤ b') : Tape n b' S := by
  obtain ⟨cs, sp, lf, h1, h2, h3, h4, h5⟩ := t
  exact ⟨cs, sp, lf, h1, h2, h3, by omega, h5⟩
theorem Tape.fr {n : Nat} {b : Int} {S S' : Sto} {ms : List Nat} (t : Tape n b S) (f : Fr ms S S') (h : n ∉ ms) : Tape n b S' := by
  obtain ⟨cs, sp, lf, h1, h2⟩ := t
  exact ⟨cs, sp, lf, f.get h1 h, h2⟩
/-- what a draw gives: below many, the tape turned on -/
def Drawn1 (n : Nat) (b many : Int) (S : Sto) (u : U) (S' : Sto) : Prop := ∃ r, u = .int r ∧ 0 ≤ r ∧ r < many ∧ Tape n b S' ∧ S'.length = S.length ∧ Fr [n] S S'
theorem mul_ok {i j : Int} {a b : Nat} (ha : i.natAbs < 2 ^ a) (hb : j.natAbs < 2 ^ b) (h : a + b ≤ 134217728) : mulOk i j = true := decide_eq_true (mulx_ok ha hb h)
theorem natAbs_lt {i : Int} {a : Nat} (h0 : 0 ≤ i) (h : i < 2 ^ a) : i.natAbs < 2 ^ a := by
  have : (i.natAbs : Int) < ((2 ^ a : Nat) : Int) := by
    rw [Int.natAbs_of_nonneg h0]
    have e : ((2 ^ a : Nat) : Int) = 2 ^ a := by simp
    rw [e]; exact h
  exact Int.ofNat_lt.mp this
end DL
namespace DL
theorem log_lt {m : Int} (h0 : 0 < m) (h1 : m < 2 ^ 200) : m.natAbs.log2 < 9000 := by
  have : m.natAbs < 2 ^ 200 := natAbs_lt (by omega) h1
  have := (Nat.log2_lt (by omega : m.natAbs ≠ 0)).mpr this
  omega
end DL
namespace DL
theorem y_orC {fa fb : FE} {d : En} {S : Sto} {Q : U → Sto → Prop} {cs : List Int} (hl : cs.length ≤ 63) (e : fa d S = .ok (.lst (cs.map .int)) S) (e2 : fb d S = .ok (.lst [.int 0]) S) (h : ∀ ds : List Int, 0 < ds.length → ds.length ≤ 63 → Q (.lst (ds.map .int)) S) : Y (fOrV fa fb d S) Q := by
  refine y_orV ?_
  rw [e]
  refine y_ok ?_
  cases cs with
  | nil => exact (show Y (fb d S) Q by rw [e2]; exact h [0] (by decide) (by decide))
  | cons c cs => exact h (c :: cs) (by simp) hl
theorem y_lenL {us : List U} {S : Sto} {Q : U → Sto → Prop} (h : Q (.int us.length) S) : Y (lenC [.lst us] S) Q := h
theorem y_ixI {ds : List Int} {i : Int} {S : Sto} {Q : U → Sto → Prop} (h0 : 0 ≤ i) (h1 : i < ds.length) (h : ∀ c, Q (.int c) S) : Y (ixU (.lst (ds.map .int)) (.int i) S) Q := by
  refine y_ixL h0 (by rw [List.length_map]; exact h1) fun u hu _ => ?_
  obtain ⟨c, _, rfl⟩ := List.mem_map.mp hu
  exact h c
end DL
namespace DL
theorem w_ifP {t : FT} {g h : FS} {d : En} {S : Sto} {D : EU} (P : Bool → Prop) (h0 : Y (t d S) fun b S1 => S1 = S ∧ P b) (h1 : P true → WS (g d S) D) (h2 : P false → WS (h d S) D) : WS (fIfS t g h d S) D :=
  w_if (h0.mono fun b S1 ⟨e, p⟩ => by
    subst e
    cases b with
    | true => exact h1 p
    | false => exact h2 p)
theorem y_ifP {α : Type} {Q : α → Sto → Prop} {t : FT} {x y : En → Sto → R α} {d : En} {S : Sto} (P : Bool → Prop) (h0 : Y (t d S) fun b S1 => S1 = S ∧ P b) (h1 : P true → Y (x d S) Q) (h2 : P false → Y (y d S) Q) : Y (fIf t x y d S) Q :=
  y_if (h0.mono fun b S1 ⟨e, p⟩ => by
    subst e
    cases b with
    | true => exact h1 p
    | false => exact h2 p)
end DL

set_option Elab.async false
set_option linter.all false
set_option maxRecDepth 100000
namespace DL
open PySem PySem.Spec L2 TL
/-! ### texts -/
theorem len_cs (z : Str) : z.length = (tl z).length := by show z.cps.size = _; simp
theorem cs_take (z : Str) (k : Nat) : tl (cutS z none (some (k : Int))) = (tl z).take k := by
  show ((z.cps.toList.drop (HT.sIx z.length 0 none)).take (HT.sIx z.length z.length (some (k : Int)) - HT.sIx z.length 0 none)) = _
  rw [HT.sIx_none, HT.sIx_nat, List.drop_zero, Nat.sub_zero, len_cs]
  show List.take (min k (tl z).length) (tl z) = _
  rw [List.take_eq_take_iff]
  omega
theorem cs_join (ys : List Str) : tl (Txt.join "" ys) = (ys.map tl).flatten := by
  rw [join_eq, tl_join]
  show joinL [] _ = _
  generalize ys.map tl = zs
  induction zs with
  | nil => rfl
  | cons p r ih =>
    cases r with
    | nil => simp [joinL]
    | cons q r => show p ++ ([] ++ joinL [] (q :: r)) = _; rw [ih]; simp
/-- small letters alone -/
def Low (z : Str) : Prop := ∀ c ∈ tl z, 97 ≤ c ∧ c ≤ 122
theorem Low.app {x y : Str} (a : Low x) (b : Low y) : Low (x ++ y) := fun c h => by
  rw [tl_append] at h
  exact (List.mem_append.mp h).elim (a c) (b c)
theorem Low.take {x : Str} (a : Low x) (k : Nat) : Low (cutS x none (some (k : Int))) := fun c h => by
  rw [cs_take] at h
  exact a c (List.mem_of_mem_take h)
theorem Low.one {x : Str} {c : Nat} (a : Low x) (h : c ∈ x.cps.toList) : Low ⟨#[c]⟩ := fun c' h' => by
  have : c' = c := by simpa using h'
  subst this
  exact a _ h
theorem Low.join {ys : List Str} (h : ∀ y ∈ ys, Low y) : Low (Txt.join "" ys) := fun c hc => by
  rw [cs_join] at hc
  obtain ⟨l, hl, hc⟩ := List.mem_flatten.mp hc
  obtain ⟨y, hy, rfl⟩ := List.mem_map.mp hl
  exact h y hy c hc
theorem Low.ok {x : Str} (a : Low x) : PyData.strOk x = true := by
  unfold PyData.strOk
  rw [Array.all_eq_true']
  intro c hc
  have := a c (by simpa using hc)
  exact decide_eq_true (by omega)
theorem len_app (x y : Str) : (x ++ y).length = x.length + y.length := by rw [len_cs, len_cs, len_cs, tl_append, List.length_append]
theorem len_take (x : Str) (k : Nat) : (cutS x none (some (k : Int))).length = min k x.length := by rw [len_cs, len_cs, cs_take, List.length_take]
theorem len_one (c : Nat) : Str.length ⟨#[c]⟩ = 1 := rfl
theorem len_join {ys : List Str} (h : ∀ y ∈ ys, y.length = 1) : (Txt.join "" ys).length = ys.length := by
  rw [len_cs, cs_join, List.length_flatten, List.map_map]
  induction ys with
  | nil => rfl
  | cons y r ih =>
    rw [List.map_cons, List.sum_cons, ih fun z hz => h z (List.mem_cons_of_mem _ hz)]
    show (tl y).length + _ = _
    rw [← len_cs, h y List.mem_cons_self, List.length_cons]
    omega

/-! ### plain data, not deeper than n, not wider than c -/
def Pl (c : Nat) : Nat → U → Prop
  | _, .non => True
  | _, .bl _ => True
  | _, .int _ => True
  | _, .str z => PyData.strOk z = true ∧ z.length ≤ sizeLine
  | n + 1, .tup us => us.length ≤ c ∧ ∀ u ∈ us, Pl c n u
  | n + 1, .lst us => us.length ≤ c ∧ ∀ u ∈ us, Pl c n u
  | _, _ => False
theorem Pl.ups {c c' n m : Nat} (hc : c ≤ c') (h : n ≤ m) : ∀ {u : U}, Pl c n u → Pl c' m u := by
  induction n generalizing m with
  | zero =>
    intro u p
    cases u <;> first | trivial | exact p | exact p.elim | skip
    all_goals (unfold Pl at p ⊢; first | exact p | exact p.elim)
  | succ n ih =>
    intro u p
    obtain ⟨m, rfl⟩ : ∃ k, m = k + 1 := ⟨m - 1, by omega⟩
    cases u with
    | tup us => exact ⟨Nat.le_trans p.1 hc, fun u hu => ih (by omega) (p.2 u hu)⟩
    | lst us => exact ⟨Nat.le_trans p.1 hc, fun u hu => ih (by omega) (p.2 u hu)⟩
    | non => trivial
    | bl b => trivial
    | int i => trivial
    | str z => exact p
    | frz us => exact p.elim
    | dic a b => exact p.elim
    | loc n => exact p.elim
    | ty n => exact p.elim
theorem Pl.up {c n m : Nat} (h : n ≤ m) {u : U} (p : Pl c n u) : Pl c m u := Pl.ups (Nat.le_refl _) h p
def plB (c : Nat) : Nat → U → Bool
  | _, .non => true
  | _, .bl _ => true
  | _, .int _ => true
  | _, .str z => PyData.strOk z && decide (z.length ≤ sizeLine)
  | n + 1, .tup us => decide (us.length ≤ c) && us.all (plB c n)
  | n + 1, .lst us => decide (us.length ≤ c) && us.all (plB c n)
  | _, _ => false
theorem plB_ok {c : Nat} : ∀ {n : Nat} {u : U}, plB c n u = true → Pl c n u := by
  intro n
  induction n with
  | zero =>
    intro u h
    cases u with
    | str z => unfold plB at h; unfold Pl; rw [Bool.and_eq_true] at h; exact ⟨h.1, of_decide_eq_true h.2⟩
    | non => trivial
    | bl b => trivial
    | int i => trivial
    | _ => unfold plB at h; cases h
  | succ n ih =>
    intro u h
    cases u with
    | str z => unfold plB at h; unfold Pl; rw [Bool.and_eq_true] at h; exact ⟨h.1, of_decide_eq_true h.2⟩
    | tup us => unfold plB at h; rw [Bool.and_eq_true] at h; exact ⟨of_decide_eq_true h.1, fun u hu => ih (List.all_eq_true.mp h.2 u hu)⟩
    | lst us => unfold plB at h; rw [Bool.and_eq_true] at h; exact ⟨of_decide_eq_true h.1, fun u hu => ih (List.all_eq_true.mp h.2 u hu)⟩
    | non => trivial
    | bl b => trivial
    | int i => trivial
    | _ => unfold plB at h; cases h
theorem Pl.strs {c n : Nat} {z : Str} (h : PyData.strOk z = true ∧ z.length ≤ sizeLine) : Pl c n (.str z) := by cases n <;> (unfold Pl; exact h)
theorem Pl.dat : ∀ {c n : Nat} {u : U}, Pl c n u → ∃ d, toD u = some d ∧ d.canLay0 = true ∧ d.depth ≤ n := by
  intro c n
  induction n with
  | zero =>
    intro u p
    cases u with
    | non => exact ⟨_, rfl, rfl, Nat.le_refl _⟩
    | bl b => exact ⟨_, rfl, rfl, Nat.le_refl _⟩
    | int i => exact ⟨_, rfl, rfl, Nat.le_refl _⟩
    | str z => exact ⟨.str z, rfl, by unfold Pl at p; exact p.1, Nat.le_refl _⟩
    | _ => unfold Pl at p; exact p.elim
  | succ n ih =>
    have all : ∀ {us : List U}, (∀ u ∈ us, Pl c n u) → ∃ ds, toDs us = some ds ∧ PyData.canLayAll0 ds = true ∧ PyData.depthAll ds ≤ n := by
      intro us h
      induction us with
      | nil => exact ⟨[], rfl, rfl, Nat.zero_le _⟩
      | cons u r ih2 =>
        obtain ⟨d, e, a, b⟩ := ih (h u List.mem_cons_self)
        obtain ⟨ds, es, as, bs⟩ := ih2 fun v hv => h v (List.mem_cons_of_mem _ hv)
        refine ⟨d :: ds, by unfold toDs; rw [e, es], ?_, ?_⟩
        · unfold PyData.canLayAll0; rw [a, as]; rfl
        · unfold PyData.depthAll; omega
    intro u p
    cases u with
    | non => exact ⟨_, rfl, rfl, Nat.zero_le _⟩
    | bl b => exact ⟨_, rfl, rfl, Nat.zero_le _⟩
    | int i => exact ⟨_, rfl, rfl, Nat.zero_le _⟩
    | str z => exact ⟨.str z, rfl, p.1, Nat.zero_le _⟩
    | tup us =>
      obtain ⟨ds, e, a, b⟩ := all p.2
      exact ⟨.tuple ds, by unfold toD; rw [e]; rfl, by unfold PyData.canLay0; exact a, by unfold PyData.depth; omega⟩
    | lst us =>
      obtain ⟨ds, e, a, b⟩ := all p.2
      exact ⟨.list ds, by unfold toD; rw [e]; rfl, by unfold PyData.canLay0; exact a, by unfold PyData.depth; omega⟩
    | _ => unfold Pl at p; exact p.elim
theorem toDS_toD {u : U} {S : Sto} {d : PyData} (h : toD u = some d) : toDS u S = some d := by
  cases u <;> first | exact h | (unfold toD at h; cases h)
theorem Pl.shaped {c n : Nat} {u : U} (p : Pl c n u) (hn : n ≤ 64) (S : Sto) : ∃ d, toDS u S = some d ∧ SeqAt.shaped d = true := by
  obtain ⟨d, e, a, b⟩ := p.dat
  refine ⟨d, toDS_toD e, ?_⟩
  unfold SeqAt.shaped
  rw [a, decide_eq_true (by omega : d.depth ≤ 64)]
  rfl
/-- == () -/
theorem y_eqE {us : List U} {c n : Nat} {S : Sto} {Q : U → Sto → Prop} (p : Pl c n (.tup us)) (hn : n ≤ 64) (h : Q (.bl us.isEmpty) S) : Y (eqU (.tup us) (.tup []) S) Q := by
  obtain ⟨d, e, s⟩ := p.shaped hn S
  have e2 : toDS (.tup us) S = (toDs us).map .tuple := rfl
  unfold eqU eqOk
  show Y (match toDS (.tup us) S, toDS (.tup []) S with
    | some a, some b => guard (SeqAt.shaped a && SeqAt.shaped b) (.ok (.bl (PyData.eqv a b)) S)
    | _, _ => .bad) Q
  rw [e]
  refine y_guard (by rw [s]; rfl) ?_
  rw [e] at e2
  cases us with
  | nil =>
    cases e2
    exact h
  | cons u r =>
    cases hr : toDs (u :: r) with
    | none => rw [hr] at e2; cases e2
    | some ds =>
      rw [hr] at e2
      cases e2
      cases ds with
      | nil => unfold toDs at hr; split at hr <;> cases hr
      | cons d ds => exact h
end DL
namespace DL
open PySem PySem.Spec L2 TL
theorem sizeL : sizeLine = 16777216 := rfl
theorem rng_len (lo c : Int) (n : Nat) : (rngU lo c n).length = n := by unfold rngU; simp
theorem strsOf_map : ∀ ys : List Str, strsOf (ys.map .str) = some ys
  | [] => rfl
  | y :: ys => by
    show (strsOf (ys.map .str)).map (y :: ·) = _
    rw [strsOf_map ys]; rfl
theorem y_join1 {ys : List Str} {S : Sto} {Q : U → Sto → Prop} (h1 : ∀ y ∈ ys, y.length = 1) (h2 : ys.length ≤ 10000) (h : Q (.str (Txt.join "" ys)) S) : Y (joinM (.str "") [.lst (ys.map .str)] S) Q := by
  show Y (match strsOf (ys.map .str) with
      | some ys => guard (decide ((ys.map (·.length)).sum + ys.length * Str.length "" ≤ 16777216)) (.ok (.str (Txt.join "" ys)) S)
      | none => .bad) Q
  rw [strsOf_map]
  refine y_guard (decide_eq_true ?_) h
  have e : (ys.map (·.length)).sum = ys.length := by
    clear h2 h
    induction ys with
    | nil => rfl
    | cons y r ih => rw [List.map_cons, List.sum_cons, ih fun z hz => h1 z (List.mem_cons_of_mem _ hz), h1 y List.mem_cons_self, List.length_cons]; omega
  rw [e, show Str.length "" = 0 from rfl]
  omega
theorem any_str (ws : List Str) (w : Str) : ((ws.map U.str).any fun z => eqF z (.str w)) = decide (w ∈ ws) := by
  induction ws with
  | nil => rfl
  | cons y r ih =>
    rw [List.map_cons, List.any_cons, ih]
    show ((y == w) || _) = _
    rw [str_beq, ← Bool.decide_or]
    by_cases q : y = w
    · subst q; simp
    · have q' : ¬ w = y := fun e => q e.symm
      simp [q, q']
theorem all_flat (ws : List Str) : (ws.map U.str).all flatU = true := by
  induction ws with
  | nil => rfl
  | cons y r ih => rw [List.map_cons, List.all_cons, ih]; rfl
theorem y_inL {f : Nat} {ws : List Str} {w : Str} {S : Sto} {Q : U → Sto → Prop} (hf : S[f]? = some (.lst (ws.map .str))) (h : Q (.bl (decide (w ∈ ws))) S) : Y (inU (.str w) (.loc f) S) Q := by
  have e : inB (.str w) (.loc f) S = some (decide (w ∈ ws)) := by
    unfold inB dictOf flatL DL.listOf listM
    simp only [hf]
    rw [all_flat, any_str]
    rfl
  unfold inU
  rw [e]
  exact h
theorem y_inV {ws : List Str} {w : Str} {S : Sto} {Q : U → Sto → Prop} (h : Q (.bl (decide (w ∈ ws))) S) : Y (inU (.str w) (.lst (ws.map .str)) S) Q := by
  have e : inB (.str w) (.lst (ws.map .str)) S = some (decide (w ∈ ws)) := by
    unfold inB dictOf flatL DL.listOf listM
    dsimp only
    rw [all_flat, any_str]
    rfl
  unfold inU
  rw [e]
  exact h
theorem y_inT {us : List U} (ws : List Str) {w : Str} {S : Sto} {Q : U → Sto → Prop} (e : us = ws.map .str) (h : Q (.bl (decide (w ∈ ws))) S) : Y (inU (.str w) (.tup us) S) Q := by
  subst e
  have e : inB (.str w) (.tup (ws.map .str)) S = some (decide (w ∈ ws)) := by
    unfold inB
    dsimp only
    rw [all_flat, any_str]
    rfl
  unfold inU
  rw [e]
  exact h
theorem Fr.setNew {ms : List Nat} {S S1 : Sto} {f : Nat} {o : Ob} (a : Fr ms S S1) (h : S.length ≤ f) : Fr ms S (S1.set f o) :=
  ⟨by rw [List.length_set]; exact a.1, fun m hm hn => by rw [List.getElem?_set_ne (by omega)]; exact a.2 m hm hn⟩
theorem y_app {f : Nat} {us : List U} {u : U} {S : Sto} {Q : U → Sto → Prop} (hf : S[f]? = some (.lst us)) (hl : us.length < sizeLine) (h : Q .non (S.set f (.lst (us ++ [u])))) : Y (appM (.loc f) [u] S) Q := by
  unfold appM
  simp only [hf]
  exact y_guard (decide_eq_true hl) h
theorem ty_list {f : Nat} {us : List U} {S : Sto} (hf : S[f]? = some (.lst us)) : tyU "list" (.loc f) S = true := by
  unfold tyU
  simp only [hf]
  rfl
theorem y_slS {z : Str} {lo hi : Option Int} {S : Sto} {Q : U → Sto → Prop} (hz : z.length ≤ sizeLine) (h : Q (.str (cutS z lo hi)) S) : Y (oU (slB (.str z) lo hi S) S) Q := y_oU (show (if z.length ≤ sizeLine then some (U.str (cutS z lo hi)) else none) = _ by rw [if_pos hz]) h
theorem sto_snoc {S : Sto} {o : Ob} : (S ++ [o])[S.length]? = some o := by simp
theorem len_ok {a : Nat} (h : Nat.ble a sizeLine = true) : a ≤ sizeLine := Nat.le_of_ble_eq_true h
theorem cut_mem {us : List U} {lo hi : Option Int} {u : U} (h : u ∈ cutU us lo hi) : u ∈ us := List.mem_of_mem_drop (List.mem_of_mem_take h)
theorem cut_len (us : List U) (lo hi : Option Int) : (cutU us lo hi).length ≤ us.length := by unfold cutU; rw [List.length_take, List.length_drop]; omega
theorem cut_pre (us : List U) (j : Nat) : cutU us none (some (j : Int)) = us.take j := by
  unfold cutU
  rw [HT.sIx_none, HT.sIx_nat, List.drop_zero, Nat.sub_zero]
  rw [List.take_eq_take_iff]; omega
theorem cut_suf (us : List U) (j : Nat) : cutU us (some (j : Int)) none = us.drop j := by
  unfold cutU
  rw [HT.sIx_none, HT.sIx_nat]
  have : us.drop (min j us.length) = us.drop j := by
    by_cases h : j ≤ us.length
    · rw [Nat.min_eq_left h]
    · rw [Nat.min_eq_right (by omega), List.drop_length, List.drop_eq_nil_of_le (by omega)]
  rw [this, List.take_of_length_le (by rw [List.length_drop]; omega)]
theorem y_slT {us : List U} {lo hi : Option Int} {S : Sto} {Q : U → Sto → Prop} (h : Q (.tup (cutU us lo hi)) S) : Y (oU (slB (.tup us) lo hi S) S) Q := y_oU (o := slB (.tup us) lo hi S) rfl h
theorem y_slL {us : List U} {lo hi : Option Int} {S : Sto} {Q : U → Sto → Prop} (h : Q (.lst (cutU us lo hi)) S) : Y (oU (slB (.lst us) lo hi S) S) Q := y_oU (o := slB (.lst us) lo hi S) rfl h
theorem y_listT {us : List U} {S : Sto} {Q : List U → Sto → Prop} (h : Q us S) : Y (listC [.tup us] S) Q := h
theorem y_lenT {us : List U} {S : Sto} {Q : U → Sto → Prop} (h : Q (.int us.length) S) : Y (lenC [.tup us] S) Q := h
theorem y_lenZ {z : Str} {S : Sto} {Q : U → Sto → Prop} (hz : z.length ≤ sizeLine) (h : Q (.int z.length) S) : Y (lenC [.str z] S) Q := by
  unfold lenC lenU
  dsimp only
  rw [if_pos hz]
  exact h
def isTup : U → Bool
  | .tup _ => true
  | _ => false
def isStr : U → Bool
  | .str _ => true
  | _ => false
theorem y_isT {c n : Nat} {u : U} {S : Sto} {Q : U → Sto → Prop} (p : Pl c n u) (h : Q (.bl (isTup u)) S) : Y (isiC [u, .ty "tuple"] S) Q := by
  cases u with
  | non => exact h
  | bl b => exact h
  | int i => exact h
  | str z => exact h
  | tup us => exact h
  | lst us => exact h
  | _ => cases n <;> (unfold Pl at p; exact p.elim)
theorem y_isS {c n : Nat} {u : U} {S : Sto} {Q : U → Sto → Prop} (p : Pl c n u) (h : Q (.bl (isStr u)) S) : Y (isiC [u, .ty "str"] S) Q := by
  cases u with
  | non => exact h
  | bl b => exact h
  | int i => exact h
  | str z => exact h
  | tup us => exact h
  | lst us => exact h
  | _ => cases n <;> (unfold Pl at p; exact p.elim)
theorem Pl.tup {c n : Nat} {us : List U} (p : Pl c n (.tup us)) : us.length ≤ c ∧ ∃ m, n = m + 1 ∧ ∀ u ∈ us, Pl c m u := by
  cases n with
  | zero => unfold Pl at p; exact p.elim
  | succ n => exact ⟨p.1, n, rfl, p.2⟩
end DL

set_option Elab.async false
set_option linter.all false
set_option maxRecDepth 100000
namespace DL
open PySem PySem.Spec L2 TL
/-! ### sayings -/
inductive Op where
  | and | or | gives | same
def Op.s : Op → Str
  | .and => "and"
  | .or => "or"
  | .gives => "if"
  | .same => "same"
inductive Say where
  | yes | no
  | name (w : Str)
  | neg (a : Say)
  | bin (o : Op) (a b : Say)
namespace Say
def u : Say → U
  | yes => .tup [.str "yes"]
  | no => .tup [.str "no"]
  | name w => .tup [.str "name", .str w]
  | neg a => .tup [.str "not", a.u]
  | bin o a b => .tup [.str o.s, a.u, b.u]
def deep : Say → Nat
  | neg a => a.deep + 1
  | bin _ a b => max a.deep b.deep + 1
  | _ => 1
def parts : Say → Nat
  | neg a => a.parts + 1
  | bin _ a b => a.parts + b.parts + 1
  | _ => 1
def On (P : Str → Prop) : Say → Prop
  | name w => P w
  | neg a => a.On P
  | bin _ a b => a.On P ∧ b.On P
  | _ => True
theorem On.mono {P Q : Str → Prop} (h : ∀ w, P w → Q w) : ∀ {x : Say}, x.On P → x.On Q
  | yes, _ => trivial
  | no, _ => trivial
  | name w, p => h w p
  | neg a, p => On.mono (x := a) h p
  | bin _ a b, p => ⟨On.mono (x := a) h p.1, On.mono (x := b) h p.2⟩
theorem deep_pos (x : Say) : 1 ≤ x.deep := by cases x <;> simp [deep]
theorem parts_pos (x : Say) : 1 ≤ x.parts := by cases x <;> simp [parts]
end Say
theorem op_ok (o : Op) : PyData.strOk o.s = true ∧ o.s.length ≤ sizeLine := by cases o <;> decide +kernel
theorem Say.pl {x : Say} (h : x.On fun w => PyData.strOk w = true ∧ w.length ≤ sizeLine) : Pl 3 x.deep x.u := by
  have s1 : PyData.strOk "yes" = true ∧ Str.length "yes" ≤ sizeLine := by decide +kernel
  have s2 : PyData.strOk "no" = true ∧ Str.length "no" ≤ sizeLine := by decide +kernel
  have s3 : PyData.strOk "name" = true ∧ Str.length "name" ≤ sizeLine := by decide +kernel
  have s4 : PyData.strOk "not" = true ∧ Str.length "not" ≤ sizeLine := by decide +kernel
  have str : ∀ {n : Nat} {z : Str}, (PyData.strOk z = true ∧ z.length ≤ sizeLine) → Pl 3 n (.str z) := fun {n z} h => Pl.strs h
  induction x with
  | yes => exact ⟨(by decide : 1 ≤ 3), fun u hu => by rw [List.mem_singleton.mp hu]; exact str s1⟩
  | no => exact ⟨(by decide : 1 ≤ 3), fun u hu => by rw [List.mem_singleton.mp hu]; exact str s2⟩
  | name w =>
    refine ⟨(by decide : 2 ≤ 3), fun u hu => ?_⟩
    simp only [List.mem_cons, List.mem_nil_iff, or_false] at hu
    rcases hu with rfl | rfl
    · exact str s3
    · exact str h
  | neg a ih =>
    refine ⟨(by decide : 2 ≤ 3), fun u hu => ?_⟩
    simp only [List.mem_cons, List.mem_nil_iff, or_false] at hu
    rcases hu with rfl | rfl
    · exact str s4
    · exact ih h
  | bin o a b iha ihb =>
    refine ⟨(by decide : 3 ≤ 3), fun u hu => ?_⟩
    simp only [List.mem_cons, List.mem_nil_iff, or_false] at hu
    rcases hu with rfl | rfl | rfl
    · exact str (op_ok o)
    · exact (iha h.1).up (Nat.le_max_left _ _)
    · exact (ihb h.2).up (Nat.le_max_right _ _)
/-- how far a saying reads the tape -/
def cst : Nat → Int
  | 0 => 90
  | d + 1 => 90 + 2 * cst d
theorem cst_pos : ∀ d, 90 ≤ cst d
  | 0 => Int.le_refl _
  | d + 1 => by have := cst_pos d; unfold cst; omega
theorem y_min {i j : Int} {S : Sto} {Q : U → Sto → Prop} (h : Q (.int (if j < i then j else i)) S) : Y (minC [.int i, .int j] S) Q := h
theorem y_max {i j : Int} {S : Sto} {Q : U → Sto → Prop} (h : Q (.int (if j > i then j else i)) S) : Y (maxC [.int i, .int j] S) Q := h
theorem y_intB {b : Bool} {S : Sto} {Q : U → Sto → Prop} (h : Q (.int (if b then 1 else 0)) S) : Y (intC [.bl b] S) Q := h
theorem ix_first {f : Nat} {S : Sto} {u : U} {us : List U} (h : S[f]? = some (.lst (u :: us))) : ixB (.loc f) (.int 0) S = some u := by
  unfold ixB DL.listOf listM
  simp only [h]
  exact atI_nat (j := 0) rfl
theorem st_first {f : Nat} {S : Sto} {u v : U} {us : List U} (h : S[f]? = some (.lst (u :: us))) : stU (.loc f) (.int 0) v S = some (S.set f (.lst (v :: us))) := by
  unfold stU
  simp only [h]
  rw [show ixN (u :: us).length 0 = some 0 from by unfold ixN; rw [if_pos (by decide), if_pos (by rw [List.length_cons]; omega)]; rfl]
  rfl
theorem y_lenS {ws : List Str} {S : Sto} {Q : U → Sto → Prop} (h : Q (.int (ws.length : Nat)) S) : Y (lenC [.lst (ws.map .str)] S) Q := y_lenL (by rw [List.length_map]; exact h)
theorem y_ixW {ws : List Str} {i : Int} {S : Sto} {Q : U → Sto → Prop} (h0 : 0 ≤ i) (h1 : i < (ws.length : Nat)) (h : ∀ w, w ∈ ws → ws[i.toNat]? = some w → Q (.str w) S) : Y (ixU (.lst (ws.map .str)) (.int i) S) Q := by
  refine y_ixL h0 (by rw [List.length_map]; exact h1) fun u hu e => ?_
  rw [List.getElem?_map] at e
  obtain ⟨w, hw, rfl⟩ := Option.map_eq_some_iff.mp e
  exact h w (List.mem_of_getElem? hw) hw
theorem y_lenK {us : List U} (m : Nat) {S : Sto} {Q : U → Sto → Prop} (e : us.length = m) (h : Q (.int (m : Int)) S) : Y (lenC [.lst us] S) Q := y_lenL (by rw [e]; exact h)
end DL
namespace DL
open PySem PySem.Spec L2 TL
theorem y_rng02 {g : FA} {d : En} {S : Sto} {QA : List U → Sto → Prop} (h : Y (g d S) fun us S1 => ∃ l : Nat, us = [.int 0, .int ((l : Int) - 1), .int 2] ∧ 1 ≤ l ∧ l ≤ 100000 ∧ QA (rngU 0 2 (l / 2)) S1) : Y (aRng3 g d S) QA := y_bind (h.mono fun us S1 ⟨l, e, h1, h2, h3⟩ => by
  subst e
  have e1 : Builtin.Range.rangeSize 0 ((l : Int) - 1) 2 = ((l / 2 : Nat) : Int) := by
    unfold Builtin.Range.rangeSize
    rw [if_pos (by decide)]
    by_cases q : (0 : Int) < (l : Int) - 1
    · rw [if_pos q]; omega
    · rw [if_neg q]; omega
  refine y_guard ?_ ?_
  · rw [e1, decide_eq_true (by decide : (2 : Int) ≠ 0), decide_eq_true (by decide : (2 : Int).natAbs < 1073741824), decide_eq_true (by omega : (0 : Int) ≤ ((l / 2 : Nat) : Int))]
    have fits : ∀ i : Int, -(2 ^ 63) ≤ i → i < 2 ^ 63 → Builtin.Range.rangeFitsLong i = true := fun i a b => by
      unfold Builtin.Range.rangeFitsLong
      rw [decide_eq_true a, decide_eq_true b]
      rfl
    simp [Builtin.Range.small]
    rw [e1]
    exact ⟨⟨⟨⟨fits _ (by decide) (by decide), fits _ (by omega) (by omega)⟩, fits _ (by decide) (by decide)⟩, fits _ (by omega) (by omega)⟩, .inr (fits _ (by omega) (by omega))⟩
  · show QA (rngU 0 2 (Builtin.Range.rangeSize 0 ((l : Int) - 1) 2).toNat) S1
    rw [e1, Int.toNat_natCast]
    exact h3)
theorem rng_mem {lo c : Int} {n : Nat} {u : U} (h : u ∈ rngU lo c n) : ∃ i : Nat, i < n ∧ u = .int (lo + (i : Int) * c) := by
  unfold rngU at h
  obtain ⟨i, hi, rfl⟩ := List.mem_map.mp h
  exact ⟨i, List.mem_range.mp hi, rfl⟩
end DL
namespace DL
open PySem PySem.Spec L2 TL
/-! ### comprehensions that change nothing -/
theorem y_compM {gt : U → En → Option En} {f : FE} {d : En} {S : Sto} {Q : List U → Sto → Prop} (g : U → U) : ∀ (us acc : List U), (∀ u ∈ us, ∃ d1, gt u d = some d1 ∧ Y (f d1 S) fun y S2 => y = g u ∧ S2 = S) → acc.length + us.length ≤ sizeLine → Q (acc ++ us.map g) S → Y (compF gt fYes f d us acc S) Q
  | [], acc, _, _, hq => by
    rw [List.map_nil, List.append_nil] at hq
    exact hq
  | u :: us, acc, h, hl, hq => by
    obtain ⟨d1, e, hy⟩ := h u List.mem_cons_self
    obtain ⟨y, S2, e2, rfl, rfl⟩ := hy.ok
    rw [List.length_cons] at hl
    unfold compF
    rw [e]
    dsimp only [fYes]
    rw [e2]
    refine y_guard (decide_eq_true (by omega)) (y_compM g us _ (fun v hv => h v (List.mem_cons_of_mem _ hv)) (by rw [List.length_append, List.length_singleton]; omega) ?_)
    rw [List.append_assoc]
    exact hq
theorem boolsOf_map {α : Type} (g : α → Bool) : ∀ us : List α, boolsOf (us.map fun u => U.bl (g u)) = some (us.map g)
  | [] => rfl
  | u :: us => by
    show (boolsOf (us.map fun u => U.bl (g u))).map (g u :: ·) = _
    rw [boolsOf_map g us]; rfl
theorem intsOf_map {α : Type} (g : α → Int) : ∀ us : List α, intsOf (us.map fun u => U.int (g u)) = some (us.map g)
  | [] => rfl
  | u :: us => by
    show (intsOf (us.map fun u => U.int (g u))).map (g u :: ·) = _
    rw [intsOf_map g us]; rfl
theorem valU_look (z : Str) : ∀ tab : List (Str × U), valU (tab.map fun p => (.inr p.1 : Key)) (tab.map (·.2)) (.inr z) = lookT tab z
  | [] => rfl
  | (k, u) :: r => by
    show (if (Sum.inr k : Key) = .inr z then some u else valU (r.map fun p => (.inr p.1 : Key)) (r.map (·.2)) (.inr z)) = if k = z then some u else lookT r z
    rw [valU_look z r]
    by_cases q : k = z
    · rw [if_pos q, if_pos (by rw [q])]
    · rw [if_neg q, if_neg fun e => q (Sum.inr.inj e)]
end DL

set_option Elab.async false
set_option linter.all false
set_option maxRecDepth 100000
namespace Law
open PySem PySem.Spec L2 DL
/-! ### the text -/
def topS (i : Nat) : Stmt := PySem.Challenge.pw_middlesay_k01_sayings_or_not.main.body.getD i (.Pass ⟨0, 0, 0, 0⟩)
abbrev s_is_word : Stmt := topS 7
abbrev s_parts_in : Stmt := topS 8
abbrev s_is_saying : Stmt := topS 9
abbrev s_law_tape : Stmt := topS 11
abbrev s_law_draw : Stmt := topS 12
abbrev s_law_words : Stmt := topS 13
abbrev s_law_saying : Stmt := topS 14
abbrev s_law_counted : Stmt := topS 15
abbrev s_law_other : Stmt := topS 16
abbrev s_law_bent : Stmt := topS 17
abbrev s_law_long : Stmt := topS 18
abbrev s_law : Stmt := topS 19
abbrev n_is_word : List Str := ["thing", "sign"]
theorem sc_is_word : FnScope n_is_word ["thing"] (defScope s_is_word) := ⟨rfl, rfl, rfl, by decide +kernel, rfl, by decide +kernel, by decide +kernel⟩
abbrev n_parts_in : List Str := ["thing", "deep", "many", "found", "part"]
theorem sc_parts_in : FnScope n_parts_in ["thing", "deep"] (defScope s_parts_in) := ⟨rfl, rfl, rfl, by decide +kernel, rfl, by decide +kernel, by decide +kernel⟩
abbrev n_is_saying : List Str := ["thing"]
theorem sc_is_saying : FnScope n_is_saying ["thing"] (defScope s_is_saying) := ⟨rfl, rfl, rfl, by decide +kernel, rfl, by decide +kernel, by decide +kernel⟩
abbrev n_law_tape : List Str := ["_law_script"]
theorem sc_law_tape : FnScope n_law_tape ["_law_script"] (defScope s_law_tape) := ⟨rfl, rfl, rfl, by decide +kernel, rfl, by decide +kernel, by decide +kernel⟩
abbrev n_law_draw : List Str := ["_law_tape_here", "_law_many", "_law_spot", "_law_cells", "_law_cell", "_law_primes", "_law_prime", "_law_seed", "_law_found"]
theorem sc_law_draw : FnScope n_law_draw ["_law_tape_here", "_law_many"] (defScope s_law_draw) := ⟨rfl, rfl, rfl, by decide +kernel, rfl, by decide +kernel, by decide +kernel⟩
abbrev n_law_words : List Str := ["_law_tape_here", "_law_many", "_law_letters", "_law_own", "_law_base", "_law_found", "_law_k", "_law_letter", "_law_some", "_law_word", "_law_more"]
theorem sc_law_words : FnScope n_law_words ["_law_tape_here", "_law_many"] (defScope s_law_words) := ⟨rfl, rfl, rfl, by decide +kernel, rfl, by decide +kernel, by decide +kernel⟩
abbrev n_law_saying : List Str := ["_law_tape_here", "_law_names", "_law_left", "_law_deep", "_law_kind", "_law_word", "_law_first"]
theorem sc_law_saying : FnScope n_law_saying ["_law_tape_here", "_law_names", "_law_left", "_law_deep"] (defScope s_law_saying) := ⟨rfl, rfl, rfl, by decide +kernel, rfl, by decide +kernel, by decide +kernel⟩
abbrev n_law_counted : List Str := ["_law_thing", "_law_deep", "_law_words_here", "_law_many", "_law_word", "_law_part", "_law_sign"]
theorem sc_law_counted : FnScope n_law_counted ["_law_thing", "_law_deep"] (defScope s_law_counted) := ⟨rfl, rfl, rfl, by decide +kernel, rfl, by decide +kernel, by decide +kernel⟩
abbrev n_law_other : List Str := ["_law_tape_here", "_law_part", "_law_some", "_law_own"]
theorem sc_law_other : FnScope n_law_other ["_law_tape_here", "_law_part"] (defScope s_law_other) := ⟨rfl, rfl, rfl, by decide +kernel, rfl, by decide +kernel, by decide +kernel⟩
abbrev n_law_bent : List Str := ["_law_tape_here", "_law_thing", "_law_at", "_law_shapes"]
theorem sc_law_bent : FnScope n_law_bent ["_law_tape_here", "_law_thing"] (defScope s_law_bent) := ⟨rfl, rfl, rfl, by decide +kernel, rfl, by decide +kernel, by decide +kernel⟩
abbrev n_law_long : List Str := ["_law_tape_here", "_law_name", "_law_way", "_law_many", "_law_found", "_law_pieces", "_law_k", "_law_rest"]
theorem sc_law_long : FnScope n_law_long ["_law_tape_here", "_law_name"] (defScope s_law_long) := ⟨rfl, rfl, rfl, by decide +kernel, rfl, by decide +kernel, by decide +kernel⟩
abbrev n_law : List Str := ["_law_script", "_law_tape_here", "_law_names", "_law_turn", "_law_saying_here", "_law_some", "_law_thing", "_law_found"]
theorem sc_law : FnScope n_law ["_law_script"] (defScope s_law) := ⟨rfl, rfl, rfl, by decide +kernel, rfl, by decide +kernel, by decide +kernel⟩
/-! ### what each def does -/
abbrev i_is_word : Nat := 0
abbrev i_parts_in : Nat := 1
abbrev i_is_saying : Nat := 2
abbrev i_law_tape : Nat := 3
abbrev i_law_draw : Nat := 4
abbrev i_law_words : Nat := 5
abbrev i_law_saying : Nat := 6
abbrev i_law_counted : Nat := 7
abbrev i_law_other : Nat := 8
abbrev i_law_bent : Nat := 9
abbrev i_law_long : Nat := 10
abbrev i_law : Nat := 11
def c_DEEPEST : U := (.int 25)
def c_LETTERS : U := (.str "abcdefghijklmnopqrstuvwxyz")
def c_LONGEST_WORD : U := (.int 8)
def t_MANY : List (Str × U) := [(("yes" : Str), (.int 0)), (("no" : Str), (.int 0)), (("not" : Str), (.int 1)), (("and" : Str), (.int 2)), (("or" : Str), (.int 2)), (("if" : Str), (.int 2)), (("same" : Str), (.int 2))]
def c_MOST_PARTS : U := (.int 400)
def c_WORDS_OF_TEXTS : U := (.tup [(.str "not"), (.str "and"), (.str "or"), (.str "gives"), (.str "is"), (.str "yes"), (.str "no")])
def b_is_word (c : Nat → List U → Sto → R U) : FS :=
  (fSeq (fIfS (fOr (fNot (fTru (fA isiC (aCons (fVar 0) (aCons (fC (.ty "str")) aNil))))) (fNot (fB (fCh leU leU (fC (.int 1)) (fA lenC (aCons (fVar 0) aNil)) (fC c_LONGEST_WORD))))) (fRet (fC (.bl false))) fNop)
    (fRet (fAndV (fA allC (aCons (fVal (aComp (aOver strV (fVar 0)) (gN 1) fYes (f2 inU (fVar 1) (fC c_LETTERS)) [1])) aNil)) (f2 ninU (fVar 0) (fC c_WORDS_OF_TEXTS)))))
def b_parts_in (c : Nat → List U → Sto → R U) : FS :=
  (fSeq (fIfS (fOr (fB (f2 gtU (fVar 1) (fC c_DEEPEST))) (fOr (fNot (fTru (fA isiC (aCons (fVar 0) (aCons (fC (.ty "tuple")) aNil))))) (fOr (fB (f2 ltU (fA lenC (aCons (fVar 0) aNil)) (fC (.int 1)))) (fNot (fTru (fA isiC (aCons (f2 ixU (fVar 0) (fC (.int 0))) (aCons (fC (.ty "str")) aNil)))))))) (fRet (f2 addU (fC c_MOST_PARTS) (fC (.int 1)))) fNop)
    (fSeq (fIfS (fB (f2 eqU (f2 ixU (fVar 0) (fC (.int 0))) (fC (.str "name")))) (fRet (fIf (fAnd (fB (f2 eqU (fA lenC (aCons (fVar 0) aNil)) (fC (.int 2)))) (fTru (fCall 1 (c i_is_word) (aCons (f2 ixU (fVar 0) (fC (.int 1))) aNil)))) (fC (.int 1)) (f2 addU (fC c_MOST_PARTS) (fC (.int 1))))) fNop)
    (fSeq (fSet 2 (fWget t_MANY (f2 ixU (fVar 0) (fC (.int 0)))))
    (fSeq (fIfS (fOr (fB (f2 isU (fVar 2) (fC .non))) (fB (f2 neU (fA lenC (aCons (fVar 0) aNil)) (f2 addU (fC (.int 1)) (fVar 2))))) (fRet (f2 addU (fC c_MOST_PARTS) (fC (.int 1)))) fNop)
    (fSeq (fSet 3 (fC (.int 1)))
    (fSeq (fFor (aOver tupV (fSl (fVar 0) (oSome (fC (.int 1))) oNone)) (gN 4) (fSeq (fSet 3 (f2 addU (fVar 3) (fCall 2 (c i_parts_in) (aCons (fVar 4) (aCons (f2 addU (fVar 1) (fC (.int 1))) aNil)))))
    (fIfS (fB (f2 gtU (fVar 3) (fC c_MOST_PARTS))) (fRet (fVar 3)) fNop)))
    (fRet (fVar 3))))))))
def b_is_saying (c : Nat → List U → Sto → R U) : FS :=
  (fRet (f2 leU (fCall 2 (c i_parts_in) (aCons (fVar 0) (aCons (fC (.int 1)) aNil))) (fC c_MOST_PARTS)))
def b_law_tape (c : Nat → List U → Sto → R U) : FS :=
  (fRet (fDloc (dDisp [((fC (.str "cells")), (fSl (fVar 0) oNone (oSome (fC (.int 63))))), ((fC (.str "spot")), (fC (.int 0))), ((fC (.str "left")), (fC (.int 0)))])))
def b_law_draw (c : Nat → List U → Sto → R U) : FS :=
  (fSeq (fIfS (fB (f2 gtU (f2 ixU (fVar 0) (fC (.str "left"))) (fC (.int 0)))) (fSeq (fSet 8 (f2 modU (f2 ixU (fVar 0) (fC (.str "left"))) (fVar 1)))
    (fSeq (fStore (f2 fdivU (f2 ixU (fVar 0) (fC (.str "left"))) (fVar 1)) (fVar 0) (fC (.str "left")))
    (fRet (fVar 8)))) fNop)
    (fSeq (fSet 2 (f2 ixU (fVar 0) (fC (.str "spot"))))
    (fSeq (fStore (f2 addU (fVar 2) (fC (.int 1))) (fVar 0) (fC (.str "spot")))
    (fSeq (fSet 3 (fOrV (f2 ixU (fVar 0) (fC (.str "cells"))) (fVal (aLst (aCons (fC (.int 0)) aNil)))))
    (fSeq (fSet 4 (f2 ixU (fVar 3) (f2 modU (fVar 2) (fA lenC (aCons (fVar 3) aNil)))))
    (fSeq (fIfS (fAnd (fB (f2 geU (fVar 4) (f2 powU (fC (.int 10)) (fC (.int 18))))) (fB (f2 ltU (fVar 2) (fA lenC (aCons (fVar 3) aNil))))) (fSeq (fStore (f2 fdivU (f2 subU (fVar 4) (f2 powU (fC (.int 10)) (fC (.int 18)))) (fVar 1)) (fVar 0) (fC (.str "left")))
    (fRet (f2 modU (f2 subU (fVar 4) (f2 powU (fC (.int 10)) (fC (.int 18)))) (fVar 1)))) fNop)
    (fSeq (fSet 5 (fVal (aLst (aCons (fC (.int 2147483647)) (aCons (fC (.int 2147483629)) (aCons (fC (.int 2147483587)) (aCons (fC (.int 2147483579)) (aCons (fC (.int 2147483563)) (aCons (fC (.int 2147483549)) (aCons (fC (.int 2147483543)) aNil))))))))))
    (fSeq (fSet 6 (f2 ixU (fVar 5) (f2 modU (fVar 2) (fC (.int 7)))))
    (fSeq (fSet 7 (f2 modU (f2 addU (f2 addU (f2 addU (f2 mulU (f2 modU (fVar 4) (fVar 6)) (fC (.int 48271))) (f2 mulU (f2 mulU (fC (.int 7919)) (fVar 2)) (fVar 2))) (f2 mulU (fC (.int 69621)) (fVar 2))) (fC (.int 1))) (fVar 6)))
    (fSeq (fSet 7 (f2 modU (f2 mulU (fVar 7) (f2 addU (fVar 7) (fC (.int 16807)))) (f2 ixU (fVar 5) (f2 modU (f2 addU (fVar 2) (fC (.int 3))) (fC (.int 7))))))
    (fSeq (fSet 8 (f2 fdivU (f2 modU (f2 mulU (fVar 7) (fVar 7)) (fVar 6)) (fC (.int 64))))
    (fSeq (fIfS (fB (f2 gtU (fVar 1) (f2 powU (fC (.int 10)) (fC (.int 6))))) (fSet 8 (f2 addU (f2 modU (fVar 8) (f2 powU (fC (.int 10)) (fC (.int 6)))) (f2 mulU (f2 powU (fC (.int 10)) (fC (.int 6))) (fCall 2 (c i_law_draw) (aCons (fVar 0) (aCons (f2 addU (f2 fdivU (fVar 1) (f2 powU (fC (.int 10)) (fC (.int 6)))) (fC (.int 1))) aNil)))))) fNop)
    (fRet (f2 modU (fVar 8) (fVar 1)))))))))))))))
def b_law_words (c : Nat → List U → Sto → R U) : FS :=
  (fSeq (fSet 2 (fC (.str "abcdefghijklmnopqrstuvwxyz")))
    (fSeq (fSet 3 (fM "str" splitM (fC (.str "nota andy org isa yesno given noa same")) (aCons (fC (.str " ")) aNil)))
    (fSeq (fSet 4 (fM "str" joinM (fC (.str "")) (aCons (fVal (aComp (aRng1 (aCons (f2 addU (fC (.int 1)) (fCall 2 (c i_law_draw) (aCons (fVar 0) (aCons (fC (.int 6)) aNil)))) aNil)) (gN 6) fYes (f2 ixU (fVar 2) (fCall 2 (c i_law_draw) (aCons (fVar 0) (aCons (fC (.int 26)) aNil)))) [6])) aNil)))
    (fSeq (fSet 5 (fLoc (aLst aNil)))
    (fSeq (fFor (aRng1 (aCons (fVar 1) aNil)) (gN 6) (fSeq (fSet 7 (f2 ixU (fVar 2) (fCall 2 (c i_law_draw) (aCons (fVar 0) (aCons (fC (.int 26)) aNil)))))
    (fSeq (fSet 8 (fVal (aLst (aCons (fVar 4) (aCons (f2 addU (fVar 4) (fVar 7)) (aCons (f2 addU (fVar 7) (fVar 4)) (aCons (fVar 7) (aCons (f2 addU (f2 addU (fVar 4) (fVar 7)) (fVar 7)) (aCons (f2 ixU (fVar 3) (fCall 2 (c i_law_draw) (aCons (fVar 0) (aCons (fC (.int 8)) aNil)))) aNil)))))))))
    (fSeq (fSet 9 (fSl (f2 ixU (fVar 8) (fCall 2 (c i_law_draw) (aCons (fVar 0) (aCons (fC (.int 6)) aNil)))) oNone (oSome (fC (.int 8)))))
    (fSeq (fFor (aOver strV (fVar 2)) (gN 10) (fIfS (fOr (fB (f2 inU (fVar 9) (fVar 5))) (fB (f2 inU (fVar 9) (fTup (aCons (fC (.str "not")) (aCons (fC (.str "and")) (aCons (fC (.str "or")) (aCons (fC (.str "gives")) (aCons (fC (.str "is")) (aCons (fC (.str "yes")) (aCons (fC (.str "no")) aNil))))))))))) (fSet 9 (f2 addU (fSl (fVar 9) oNone (oSome (fC (.int 7)))) (fVar 10))) fNop))
    (fExpr (fM "list" appM (fVar 5) (aCons (fVar 9) aNil))))))))
    (fRet (fIce (fVar 5))))))))
def b_law_saying (c : Nat → List U → Sto → R U) : FS :=
  (fSeq (fSet 4 (fCall 2 (c i_law_draw) (aCons (fVar 0) (aCons (fC (.int 10)) aNil))))
    (fSeq (fIfS (fOr (fB (f2 ltU (f2 ixU (fVar 2) (fC (.int 0))) (fC (.int 2)))) (fOr (fB (f2 ltU (fVar 3) (fC (.int 2)))) (fB (f2 ltU (fVar 4) (fC (.int 3)))))) (fRet (f2 ixU (fVal (aLst (aCons (fTup (aCons (fC (.str "yes")) aNil)) (aCons (fTup (aCons (fC (.str "no")) aNil)) (aCons (fTup (aCons (fC (.str "name")) (aCons (f2 ixU (fVar 1) (fCall 2 (c i_law_draw) (aCons (fVar 0) (aCons (fA lenC (aCons (fVar 1) aNil)) aNil)))) aNil))) aNil))))) (fA minC (aCons (fC (.int 2)) (aCons (fCall 2 (c i_law_draw) (aCons (fVar 0) (aCons (fC (.int 12)) aNil))) aNil))))) fNop)
    (fSeq (fStore (f2 subU (f2 subU (f2 ixU (fVar 2) (fC (.int 0))) (fC (.int 1))) (fA intC (aCons (f2 gtU (fVar 4) (fC (.int 3))) aNil))) (fVar 2) (fC (.int 0)))
    (fSeq (fIfS (fB (f2 eqU (fVar 4) (fC (.int 3)))) (fRet (fTup (aCons (fC (.str "not")) (aCons (fCall 4 (c i_law_saying) (aCons (fVar 0) (aCons (fVar 1) (aCons (fVar 2) (aCons (f2 subU (fVar 3) (fC (.int 1))) aNil))))) aNil)))) fNop)
    (fSeq (fSet 5 (f2 ixU (fVal (aLst (aCons (fC (.str "and")) (aCons (fC (.str "or")) (aCons (fC (.str "if")) (aCons (fC (.str "same")) (aCons (fC (.str "and")) (aCons (fC (.str "or")) aNil)))))))) (f2 subU (fVar 4) (fC (.int 4)))))
    (fSeq (fSet 6 (fCall 4 (c i_law_saying) (aCons (fVar 0) (aCons (fVar 1) (aCons (fVar 2) (aCons (f2 subU (fVar 3) (fC (.int 1))) aNil))))))
    (fRet (fTup (aCons (fVar 5) (aCons (fVar 6) (aCons (fCall 4 (c i_law_saying) (aCons (fVar 0) (aCons (fVar 1) (aCons (fVar 2) (aCons (f2 subU (fVar 3) (fC (.int 1))) aNil))))) aNil)))))))))))
def b_law_counted (c : Nat → List U → Sto → R U) : FS :=
  (fSeq (fSet 2 (fVal (aLst (aCons (fC (.str "not")) (aCons (fC (.str "and")) (aCons (fC (.str "or")) (aCons (fC (.str "gives")) (aCons (fC (.str "is")) (aCons (fC (.str "yes")) (aCons (fC (.str "no")) aNil))))))))))
    (fSeq (fIfS (fOr (fB (f2 gtU (fVar 1) (fC (.int 25)))) (fOr (fNot (fTru (fA isiC (aCons (fVar 0) (aCons (fC (.ty "tuple")) aNil))))) (fOr (fB (f2 eqU (fVar 0) (fTup aNil))) (fNot (fTru (fA isiC (aCons (f2 ixU (fVar 0) (fC (.int 0))) (aCons (fC (.ty "str")) aNil)))))))) (fRet (fC (.int 1000))) fNop)
    (fSeq (fIfS (fB (f2 eqU (f2 ixU (fVar 0) (fC (.int 0))) (fC (.str "name")))) (fSeq (fSet 4 (fIf (fB (f2 eqU (fA lenC (aCons (fVar 0) aNil)) (fC (.int 2)))) (f2 ixU (fVar 0) (fC (.int 1))) (fC (.int 0))))
    (fSeq (fIfS (fOr (fNot (fTru (fA isiC (aCons (fVar 4) (aCons (fC (.ty "str")) aNil))))) (fOr (fNot (fB (fCh leU leU (fC (.int 1)) (fA lenC (aCons (fVar 4) aNil)) (fC (.int 8))))) (fB (f2 inU (fVar 4) (fVar 2))))) (fRet (fC (.int 1000))) fNop)
    (fRet (fIf (fTru (fA allC (aCons (fVal (aComp (aOver strV (fVar 4)) (gN 6) fYes (f2 inU (fVar 6) (fC (.str "abcdefghijklmnopqrstuvwxyz"))) [6])) aNil))) (fC (.int 1)) (fC (.int 1000)))))) fNop)
    (fSeq (fSet 3 (fM "dict" getM (fDval (dDisp [((fC (.str "yes")), (fC (.int 0))), ((fC (.str "no")), (fC (.int 0))), ((fC (.str "not")), (fC (.int 1))), ((fC (.str "and")), (fC (.int 2))), ((fC (.str "or")), (fC (.int 2))), ((fC (.str "if")), (fC (.int 2))), ((fC (.str "same")), (fC (.int 2)))])) (aCons (f2 ixU (fVar 0) (fC (.int 0))) (aCons (fC (.int 9)) aNil))))
    (fSeq (fIfS (fB (f2 neU (fA lenC (aCons (fVar 0) aNil)) (f2 addU (fVar 3) (fC (.int 1))))) (fRet (fC (.int 1000))) fNop)
    (fRet (f2 addU (fC (.int 1)) (fA sumC (aCons (fVal (aComp (aOver tupV (fSl (fVar 0) (oSome (fC (.int 1))) oNone)) (gN 5) fYes (fCall 2 (c i_law_counted) (aCons (fVar 5) (aCons (f2 addU (fVar 1) (fC (.int 1))) aNil))) [5])) aNil)))))))))
def b_law_other (c : Nat → List U → Sto → R U) : FS :=
  (fSeq (fSet 2 (fVal (aLst (aCons (fC (.str "yes")) (aCons (fC (.str "not")) (aCons (fC (.str "gives")) (aCons (fC (.str "names")) (aCons (fC (.str "")) (aCons (fC (.str "ab")) (aCons (fC (.str "Ab")) (aCons (fC (.str "abcdefghi")) (aCons (fC (.str "a1")) (aCons (fC (.str "not ")) (aCons (fC (.int 7)) (aCons (fC (.int 0)) (aCons (fC (.bl true)) (aCons (fC .non) (aCons (fTup aNil) (aCons (fTup (aCons (fC (.str "yes")) aNil)) aNil)))))))))))))))))))
    (fSeq (fSet 2 (f2 addU (fVar 2) (fVal (aLst (aCons (fVal (aLst (aCons (fC (.str "no")) aNil))) (aCons (fTup (aCons (fC (.str "no")) (aCons (fC (.int 1)) aNil))) (aCons (fTup (aCons (fC (.str "name")) (aCons (fC (.str "is")) aNil))) (aCons (fTup (aCons (fC (.str "name")) (aCons (fC (.str "and")) aNil))) (aCons (fTup (aCons (fC (.str "name")) (aCons (fC (.str "x")) (aCons (fC (.str "y")) aNil)))) (aCons (fTup (aCons (fC (.str "name")) aNil)) (aCons (fTup (aCons (fC (.str "not")) aNil)) aNil)))))))))))
    (fSeq (fSet 3 (f2 ixU (fVal (aLst (aCons (fC (.str "not")) (aCons (fC (.str "and")) (aCons (fC (.str "or")) (aCons (fC (.str "gives")) (aCons (fC (.str "is")) (aCons (fC (.str "yes")) (aCons (fC (.str "no")) aNil))))))))) (fCall 2 (c i_law_draw) (aCons (fVar 0) (aCons (fC (.int 7)) aNil)))))
    (fSeq (fSet 2 (f2 addU (fVar 2) (fVal (aLst (aCons (fTup (aCons (fC (.str "name")) (aCons (fC (.int 7)) aNil))) (aCons (fTup (aCons (fC (.str "name")) (aCons (fVar 3) aNil))) (aCons (fTup (aCons (fC (.str "name")) (aCons (fC (.str "ab\n")) aNil))) aNil)))))))
    (fSeq (fSet 2 (f2 addU (fVar 2) (fVal (aLst (aCons (fTup (aCons (fC (.str "and")) (aCons (fTup (aCons (fC (.str "yes")) aNil)) aNil))) (aCons (fTup (aCons (fC (.str "or")) (aCons (fTup (aCons (fC (.str "yes")) aNil)) (aCons (fTup (aCons (fC (.str "no")) aNil)) (aCons (fTup (aCons (fC (.str "no")) aNil)) aNil))))) (aCons (fTup (aCons (fC (.str "name")) (aCons (fTup (aCons (fC (.str "name")) (aCons (fC (.str "a")) aNil))) aNil))) (aCons (fTup (aCons (fTup (aCons (fC (.str "yes")) aNil)) aNil)) (aCons (fC (.str "name")) aNil)))))))))
    (fRet (f2 ixU (fVar 2) (fCall 2 (c i_law_draw) (aCons (fVar 0) (aCons (fA lenC (aCons (fVar 2) aNil)) aNil))))))))))
def b_law_bent (c : Nat → List U → Sto → R U) : FS :=
  (fSeq (fIfS (fOr (fNot (fTru (fA isiC (aCons (fVar 1) (aCons (fC (.ty "tuple")) aNil))))) (fOr (fB (f2 eqU (fVar 1) (fTup aNil))) (fB (f2 eqU (fCall 2 (c i_law_draw) (aCons (fVar 0) (aCons (fC (.int 6)) aNil))) (fC (.int 0)))))) (fRet (fCall 2 (c i_law_other) (aCons (fVar 0) (aCons (fVar 1) aNil)))) fNop)
    (fSeq (fSet 2 (fCall 2 (c i_law_draw) (aCons (fVar 0) (aCons (fA lenC (aCons (fVar 1) aNil)) aNil))))
    (fSeq (fSet 3 (f2 mulU (fVal (aLst (aCons (f2 addU (f2 addU (fSl (fVar 1) oNone (oSome (fVar 2))) (fTup (aCons (fCall 2 (c i_law_bent) (aCons (fVar 0) (aCons (f2 ixU (fVar 1) (fVar 2)) aNil))) aNil))) (fSl (fVar 1) (oSome (f2 addU (fVar 2) (fC (.int 1)))) oNone)) aNil))) (fC (.int 5))))
    (fSeq (fSet 3 (f2 addU (fVar 3) (fVal (aLst (aCons (f2 addU (fSl (fVar 1) oNone (oSome (fVar 2))) (fSl (fVar 1) (oSome (f2 addU (fVar 2) (fC (.int 1)))) oNone)) (aCons (f2 addU (fVar 1) (fTup (aCons (fTup (aCons (fC (.str "yes")) aNil)) aNil))) (aCons (fVal (fA listC (aCons (fVar 1) aNil))) aNil)))))))
    (fRet (f2 ixU (fVar 3) (fCall 2 (c i_law_draw) (aCons (fVar 0) (aCons (fC (.int 8)) aNil)))))))))
def b_law_long (c : Nat → List U → Sto → R U) : FS :=
  (fSeq (fSet 2 (fCall 2 (c i_law_draw) (aCons (fVar 0) (aCons (fC (.int 3)) aNil))))
    (fSeq (fSet 3 (f2 addU (fC (.int 24)) (fCall 2 (c i_law_draw) (aCons (fVar 0) (aCons (fC (.int 3)) aNil)))))
    (fSeq (fSet 4 (fTup (aCons (fC (.str "name")) (aCons (fVar 1) aNil))))
    (fSeq (fIfS (fB (f2 eqU (fVar 2) (fC (.int 0)))) (fSeq (fFor (aRng1 (aCons (f2 subU (fVar 3) (fC (.int 1))) aNil)) (gN 6) (fSet 4 (f2 ixU (fVal (aLst (aCons (fTup (aCons (fC (.str "not")) (aCons (fVar 4) aNil))) (aCons (fTup (aCons (fC (.str "and")) (aCons (fVar 4) (aCons (fTup (aCons (fC (.str "yes")) aNil)) aNil)))) (aCons (fTup (aCons (fC (.str "same")) (aCons (fTup (aCons (fC (.str "no")) aNil)) (aCons (fVar 4) aNil)))) aNil))))) (fCall 2 (c i_law_draw) (aCons (fVar 0) (aCons (fC (.int 3)) aNil))))))
    (fRet (fVar 4))) fNop)
    (fSeq (fSet 5 (f2 mulU (fVal (aLst (aCons (fTup (aCons (fC (.str "name")) (aCons (fVar 1) aNil))) aNil))) (f2 addU (fC (.int 199)) (fCall 2 (c i_law_draw) (aCons (fVar 0) (aCons (fC (.int 4)) aNil))))))
    (fSeq (whileF (fB (f2 gtU (fA lenC (aCons (fVar 5) aNil)) (fC (.int 1)))) (fSeq (fSet 7 (fSl (fVar 5) (oSome (f2 mulU (f2 fdivU (fA lenC (aCons (fVar 5) aNil)) (fC (.int 2))) (fC (.int 2)))) oNone))
    (fSet 5 (f2 addU (fVal (aComp (aRng3 (aCons (fC (.int 0)) (aCons (f2 subU (fA lenC (aCons (fVar 5) aNil)) (fC (.int 1))) (aCons (fC (.int 2)) aNil)))) (gN 6) fYes (fTup (aCons (fC (.str "or")) (aCons (f2 ixU (fVar 5) (fVar 6)) (aCons (f2 ixU (fVar 5) (f2 addU (fVar 6) (fC (.int 1)))) aNil)))) [6])) (fVar 7)))) 100)
    (fRet (fIf (fB (f2 eqU (fVar 2) (fC (.int 1)))) (f2 ixU (fVar 5) (fC (.int 0))) (fTup (aCons (fC (.str "not")) (aCons (f2 ixU (fVar 5) (fC (.int 0))) aNil)))))))))))
def b_law (c : Nat → List U → Sto → R U) : FS :=
  (fSeq (fSet 1 (fCall 1 (c i_law_tape) (aCons (fVar 0) aNil)))
    (fSeq (fSet 2 (fCall 2 (c i_law_words) (aCons (fVar 1) (aCons (fC (.int 4)) aNil))))
    (fSeq (fFor (aRng1 (aCons (fC (.int 4)) aNil)) (gN 3) (fSeq (fSet 4 (fCall 4 (c i_law_saying) (aCons (fVar 1) (aCons (fVar 2) (aCons (fLoc (aLst (aCons (f2 ixU (fVal (aLst (aCons (fC (.int 12)) (aCons (fC (.int 60)) (aCons (fC (.int 300)) aNil))))) (fCall 2 (c i_law_draw) (aCons (fVar 1) (aCons (fC (.int 3)) aNil)))) aNil))) (aCons (fC (.int 25)) aNil))))))
    (fSeq (fSet 5 (fVal (aLst (aCons (fVar 4) (aCons (fCall 2 (c i_law_bent) (aCons (fVar 1) (aCons (fVar 4) aNil))) (aCons (fCall 2 (c i_law_long) (aCons (fVar 1) (aCons (f2 ixU (fVar 2) (fC (.int 0))) aNil))) (aCons (fCall 2 (c i_law_bent) (aCons (fVar 1) (aCons (fCall 2 (c i_law_bent) (aCons (fVar 1) (aCons (fVar 4) aNil))) aNil))) aNil)))))))
    (fFor (aOver lstV (f2 addU (fVar 5) (fVal (aLst (aCons (fC .non) (aCons (fC (.int 7)) (aCons (fC (.str "yes")) (aCons (fC (.bl true)) (aCons (fVal (aLst (aCons (fVar 4) aNil))) (aCons (f2 ixU (fVar 2) (fC (.int 0))) aNil)))))))))) (gN 6) (fSeq (fSet 7 (fCall 1 (c i_is_saying) (aCons (fVar 6) aNil)))
    (fIfS (fOr (fNot (fTru (fA isiC (aCons (fVar 7) (aCons (fC (.ty "bool")) aNil))))) (fB (f2 neU (fVar 7) (f2 leU (fCall 2 (c i_law_counted) (aCons (fVar 6) (aCons (fC (.int 1)) aNil))) (fC (.int 400)))))) (fRet (fC (.bl false))) fNop))))))
    (fRet (fC (.bl true))))))
def bodies (c : Nat → List U → Sto → R U) : Nat → FS
  | 0 => b_is_word c
  | 1 => b_parts_in c
  | 2 => b_is_saying c
  | 3 => b_law_tape c
  | 4 => b_law_draw c
  | 5 => b_law_words c
  | 6 => b_law_saying c
  | 7 => b_law_counted c
  | 8 => b_law_other c
  | 9 => b_law_bent c
  | 10 => b_law_long c
  | 11 => b_law c
  | _ => fNever
def slots : Nat → Nat
  | 0 => 2
  | 1 => 5
  | 2 => 1
  | 3 => 1
  | 4 => 9
  | 5 => 11
  | 6 => 7
  | 7 => 7
  | 8 => 4
  | 9 => 4
  | 10 => 8
  | 11 => 8
  | _ => 0
/-- the defs, as deep as k -/
def call : Nat → Nat → List U → Sto → R U
  | 0, _, _, _ => .bad
  | k + 1, i, us, S => runB (bodies (call k) i) (enStart (slots i) us) S
end Law

set_option Elab.async false
set_option linter.all false
set_option maxRecDepth 100000
set_option maxHeartbeats 2000000
namespace Law
open PySem PySem.Spec L2 DL
/-! ### draws -/
theorem pow18 : (10 : Int) ^ (18 : Int).toNat = 1000000000000000000 := by decide
theorem pow6 : (10 : Int) ^ (6 : Int).toNat = 1000000 := by decide
theorem primes_in {p : U} (h : p ∈ ([.int 2147483647, .int 2147483629, .int 2147483587, .int 2147483579, .int 2147483563, .int 2147483549, .int 2147483543] : List U)) : ∃ i : Int, p = .int i ∧ 2147483543 ≤ i ∧ i ≤ 2147483647 := by
  simp only [List.mem_cons, List.mem_nil_iff, or_false] at h
  rcases h with rfl | rfl | rfl | rfl | rfl | rfl | rfl <;> exact ⟨_, rfl, by decide, by decide⟩
theorem draw_step {k n : Nat} {b many : Int} {S : Sto} (t : Tape n b S) (hb : b ≤ 2 ^ 100) (h0 : 0 < many) (h1 : many < 2 ^ 200)
    (hrec : 1000000 < many → ∀ S1, Tape n (b + 1) S1 → Y (call k i_law_draw [.loc n, .int (many / 1000000 + 1)] S1) (Drawn1 n (b + 30) (many / 1000000 + 1) S1)) :
    Y (call (k + 1) i_law_draw [.loc n, .int many] S) (Drawn1 n (b + 30) many S) := by
  obtain ⟨cs, sp, lf, h, hl, hs0, hsb, hf⟩ := t
  have hn : n < S.length := (List.getElem?_eq_some_iff.mp h).1
  refine y_run ?_
  show WS (b_law_draw (call k) [some (.loc n), some (.int many), none, none, none, none, none, none, none] S) _
  unfold b_law_draw
  (repeat (first | with_reducible refine w_seq ?_ | with_reducible refine w_set ?_ | with_reducible refine w_expr ?_ | with_reducible refine w_ret ?_ | with_reducible refine w_retN ?_ | with_reducible refine w_store ?_ | with_reducible refine w_nop ?_ | with_reducible refine w_for ?_ | with_reducible refine w_asg ?_ | with_reducible refine w_ct ?_ | with_reducible refine w_brk ?_ | with_reducible refine y_f2 ?_ | with_reducible refine y_C ?_ | with_reducible refine y_var (by with_unfolding_all exact rfl) ?_ | with_reducible refine y_f1 ?_ | with_reducible refine y_B ?_ | with_reducible refine y_unB ?_ | with_reducible refine y_ch ?_ | with_reducible refine y_tru ?_ | with_reducible refine y_tbl ?_ | with_reducible refine y_and ?_ | with_reducible refine y_or ?_ | with_reducible refine y_not ?_ | with_reducible refine y_andV ?_ | with_reducible refine y_notV ?_ | with_reducible refine y_nil ?_ | with_reducible refine y_cons ?_ | with_reducible refine y_tup ?_ | with_reducible refine y_lst ?_ | with_reducible refine y_val ?_ | with_reducible refine y_loc ?_ | with_reducible refine y_dval ?_ | with_reducible refine y_dloc ?_ | with_reducible refine y_ice ?_ | with_reducible refine y_oNone ?_ | with_reducible refine y_oSome ?_ | with_reducible refine y_sl ?_ | with_reducible refine y_A ?_ | with_reducible refine y_call ?_ | with_reducible refine y_M ?_ | with_reducible refine y_aComp ?_ | with_reducible refine y_rng1 ?_ | with_reducible refine y_over ?_ | with_reducible refine y_addI ?_ | with_reducible refine y_subI ?_ | with_reducible refine y_ltI ?_ | with_reducible refine y_leI ?_ | with_reducible refine y_gtI ?_ | with_reducible refine y_geI ?_ | with_reducible refine y_eqI ?_ | with_reducible refine y_neI ?_ | with_reducible refine y_eqB ?_ | with_reducible refine y_neB ?_ | with_reducible refine y_eqS ?_ | with_reducible refine y_neS ?_ | with_reducible refine y_isN ?_ | with_reducible refine y_isnN ?_ | with_reducible refine y_wget ?_ | with_reducible refine And.intro (len_ok (by with_unfolding_all exact rfl)) ?_))
  refine w_if ?_
  (repeat (first | with_reducible refine w_seq ?_ | with_reducible refine w_set ?_ | with_reducible refine w_expr ?_ | with_reducible refine w_ret ?_ | with_reducible refine w_retN ?_ | with_reducible refine w_store ?_ | with_reducible refine w_nop ?_ | with_reducible refine w_for ?_ | with_reducible refine w_asg ?_ | with_reducible refine w_ct ?_ | with_reducible refine w_brk ?_ | with_reducible refine y_f2 ?_ | with_reducible refine y_C ?_ | with_reducible refine y_var (by with_unfolding_all exact rfl) ?_ | with_reducible refine y_f1 ?_ | with_reducible refine y_B ?_ | with_reducible refine y_unB ?_ | with_reducible refine y_ch ?_ | with_reducible refine y_tru ?_ | with_reducible refine y_tbl ?_ | with_reducible refine y_and ?_ | with_reducible refine y_or ?_ | with_reducible refine y_not ?_ | with_reducible refine y_andV ?_ | with_reducible refine y_notV ?_ | with_reducible refine y_nil ?_ | with_reducible refine y_cons ?_ | with_reducible refine y_tup ?_ | with_reducible refine y_lst ?_ | with_reducible refine y_val ?_ | with_reducible refine y_loc ?_ | with_reducible refine y_dval ?_ | with_reducible refine y_dloc ?_ | with_reducible refine y_ice ?_ | with_reducible refine y_oNone ?_ | with_reducible refine y_oSome ?_ | with_reducible refine y_sl ?_ | with_reducible refine y_A ?_ | with_reducible refine y_call ?_ | with_reducible refine y_M ?_ | with_reducible refine y_aComp ?_ | with_reducible refine y_rng1 ?_ | with_reducible refine y_over ?_ | with_reducible refine y_addI ?_ | with_reducible refine y_subI ?_ | with_reducible refine y_ltI ?_ | with_reducible refine y_leI ?_ | with_reducible refine y_gtI ?_ | with_reducible refine y_geI ?_ | with_reducible refine y_eqI ?_ | with_reducible refine y_neI ?_ | with_reducible refine y_eqB ?_ | with_reducible refine y_neB ?_ | with_reducible refine y_eqS ?_ | with_reducible refine y_neS ?_ | with_reducible refine y_isN ?_ | with_reducible refine y_isnN ?_ | with_reducible refine y_wget ?_ | with_reducible refine And.intro (len_ok (by with_unfolding_all exact rfl)) ?_))
  refine y_ix (ix_left h) ?_
  (repeat (first | with_reducible refine w_seq ?_ | with_reducible refine w_set ?_ | with_reducible refine w_expr ?_ | with_reducible refine w_ret ?_ | with_reducible refine w_retN ?_ | with_reducible refine w_store ?_ | with_reducible refine w_nop ?_ | with_reducible refine w_for ?_ | with_reducible refine w_asg ?_ | with_reducible refine w_ct ?_ | with_reducible refine w_brk ?_ | with_reducible refine y_f2 ?_ | with_reducible refine y_C ?_ | with_reducible refine y_var (by with_unfolding_all exact rfl) ?_ | with_reducible refine y_f1 ?_ | with_reducible refine y_B ?_ | with_reducible refine y_unB ?_ | with_reducible refine y_ch ?_ | with_reducible refine y_tru ?_ | with_reducible refine y_tbl ?_ | with_reducible refine y_and ?_ | with_reducible refine y_or ?_ | with_reducible refine y_not ?_ | with_reducible refine y_andV ?_ | with_reducible refine y_notV ?_ | with_reducible refine y_nil ?_ | with_reducible refine y_cons ?_ | with_reducible refine y_tup ?_ | with_reducible refine y_lst ?_ | with_reducible refine y_val ?_ | with_reducible refine y_loc ?_ | with_reducible refine y_dval ?_ | with_reducible refine y_dloc ?_ | with_reducible refine y_ice ?_ | with_reducible refine y_oNone ?_ | with_reducible refine y_oSome ?_ | with_reducible refine y_sl ?_ | with_reducible refine y_A ?_ | with_reducible refine y_call ?_ | with_reducible refine y_M ?_ | with_reducible refine y_aComp ?_ | with_reducible refine y_rng1 ?_ | with_reducible refine y_over ?_ | with_reducible refine y_addI ?_ | with_reducible refine y_subI ?_ | with_reducible refine y_ltI ?_ | with_reducible refine y_leI ?_ | with_reducible refine y_gtI ?_ | with_reducible refine y_geI ?_ | with_reducible refine y_eqI ?_ | with_reducible refine y_neI ?_ | with_reducible refine y_eqB ?_ | with_reducible refine y_neB ?_ | with_reducible refine y_eqS ?_ | with_reducible refine y_neS ?_ | with_reducible refine y_isN ?_ | with_reducible refine y_isnN ?_ | with_reducible refine y_wget ?_ | with_reducible refine And.intro (len_ok (by with_unfolding_all exact rfl)) ?_))
  refine ite_b (fun c => ?_) (fun c => ?_)
  · have c := of_decide_eq_true c
    (repeat (first | with_reducible refine w_seq ?_ | with_reducible refine w_set ?_ | with_reducible refine w_expr ?_ | with_reducible refine w_ret ?_ | with_reducible refine w_retN ?_ | with_reducible refine w_store ?_ | with_reducible refine w_nop ?_ | with_reducible refine w_for ?_ | with_reducible refine w_asg ?_ | with_reducible refine w_ct ?_ | with_reducible refine w_brk ?_ | with_reducible refine y_f2 ?_ | with_reducible refine y_C ?_ | with_reducible refine y_var (by with_unfolding_all exact rfl) ?_ | with_reducible refine y_f1 ?_ | with_reducible refine y_B ?_ | with_reducible refine y_unB ?_ | with_reducible refine y_ch ?_ | with_reducible refine y_tru ?_ | with_reducible refine y_tbl ?_ | with_reducible refine y_and ?_ | with_reducible refine y_or ?_ | with_reducible refine y_not ?_ | with_reducible refine y_andV ?_ | with_reducible refine y_notV ?_ | with_reducible refine y_nil ?_ | with_reducible refine y_cons ?_ | with_reducible refine y_tup ?_ | with_reducible refine y_lst ?_ | with_reducible refine y_val ?_ | with_reducible refine y_loc ?_ | with_reducible refine y_dval ?_ | with_reducible refine y_dloc ?_ | with_reducible refine y_ice ?_ | with_reducible refine y_oNone ?_ | with_reducible refine y_oSome ?_ | with_reducible refine y_sl ?_ | with_reducible refine y_A ?_ | with_reducible refine y_call ?_ | with_reducible refine y_M ?_ | with_reducible refine y_aComp ?_ | with_reducible refine y_rng1 ?_ | with_reducible refine y_over ?_ | with_reducible refine y_addI ?_ | with_reducible refine y_subI ?_ | with_reducible refine y_ltI ?_ | with_reducible refine y_leI ?_ | with_reducible refine y_gtI ?_ | with_reducible refine y_geI ?_ | with_reducible refine y_eqI ?_ | with_reducible refine y_neI ?_ | with_reducible refine y_eqB ?_ | with_reducible refine y_neB ?_ | with_reducible refine y_eqS ?_ | with_reducible refine y_neS ?_ | with_reducible refine y_isN ?_ | with_reducible refine y_isnN ?_ | with_reducible refine y_wget ?_ | with_reducible refine And.intro (len_ok (by with_unfolding_all exact rfl)) ?_))
    refine y_ix (ix_left h) ?_
    (repeat (first | with_reducible refine w_seq ?_ | with_reducible refine w_set ?_ | with_reducible refine w_expr ?_ | with_reducible refine w_ret ?_ | with_reducible refine w_retN ?_ | with_reducible refine w_store ?_ | with_reducible refine w_nop ?_ | with_reducible refine w_for ?_ | with_reducible refine w_asg ?_ | with_reducible refine w_ct ?_ | with_reducible refine w_brk ?_ | with_reducible refine y_f2 ?_ | with_reducible refine y_C ?_ | with_reducible refine y_var (by with_unfolding_all exact rfl) ?_ | with_reducible refine y_f1 ?_ | with_reducible refine y_B ?_ | with_reducible refine y_unB ?_ | with_reducible refine y_ch ?_ | with_reducible refine y_tru ?_ | with_reducible refine y_tbl ?_ | with_reducible refine y_and ?_ | with_reducible refine y_or ?_ | with_reducible refine y_not ?_ | with_reducible refine y_andV ?_ | with_reducible refine y_notV ?_ | with_reducible refine y_nil ?_ | with_reducible refine y_cons ?_ | with_reducible refine y_tup ?_ | with_reducible refine y_lst ?_ | with_reducible refine y_val ?_ | with_reducible refine y_loc ?_ | with_reducible refine y_dval ?_ | with_reducible refine y_dloc ?_ | with_reducible refine y_ice ?_ | with_reducible refine y_oNone ?_ | with_reducible refine y_oSome ?_ | with_reducible refine y_sl ?_ | with_reducible refine y_A ?_ | with_reducible refine y_call ?_ | with_reducible refine y_M ?_ | with_reducible refine y_aComp ?_ | with_reducible refine y_rng1 ?_ | with_reducible refine y_over ?_ | with_reducible refine y_addI ?_ | with_reducible refine y_subI ?_ | with_reducible refine y_ltI ?_ | with_reducible refine y_leI ?_ | with_reducible refine y_gtI ?_ | with_reducible refine y_geI ?_ | with_reducible refine y_eqI ?_ | with_reducible refine y_neI ?_ | with_reducible refine y_eqB ?_ | with_reducible refine y_neB ?_ | with_reducible refine y_eqS ?_ | with_reducible refine y_neS ?_ | with_reducible refine y_isN ?_ | with_reducible refine y_isnN ?_ | with_reducible refine y_wget ?_ | with_reducible refine And.intro (len_ok (by with_unfolding_all exact rfl)) ?_))
    refine y_modI h0 ?_
    (repeat (first | with_reducible refine w_seq ?_ | with_reducible refine w_set ?_ | with_reducible refine w_expr ?_ | with_reducible refine w_ret ?_ | with_reducible refine w_retN ?_ | with_reducible refine w_store ?_ | with_reducible refine w_nop ?_ | with_reducible refine w_for ?_ | with_reducible refine w_asg ?_ | with_reducible refine w_ct ?_ | with_reducible refine w_brk ?_ | with_reducible refine y_f2 ?_ | with_reducible refine y_C ?_ | with_reducible refine y_var (by with_unfolding_all exact rfl) ?_ | with_reducible refine y_f1 ?_ | with_reducible refine y_B ?_ | with_reducible refine y_unB ?_ | with_reducible refine y_ch ?_ | with_reducible refine y_tru ?_ | with_reducible refine y_tbl ?_ | with_reducible refine y_and ?_ | with_reducible refine y_or ?_ | with_reducible refine y_not ?_ | with_reducible refine y_andV ?_ | with_reducible refine y_notV ?_ | with_reducible refine y_nil ?_ | with_reducible refine y_cons ?_ | with_reducible refine y_tup ?_ | with_reducible refine y_lst ?_ | with_reducible refine y_val ?_ | with_reducible refine y_loc ?_ | with_reducible refine y_dval ?_ | with_reducible refine y_dloc ?_ | with_reducible refine y_ice ?_ | with_reducible refine y_oNone ?_ | with_reducible refine y_oSome ?_ | with_reducible refine y_sl ?_ | with_reducible refine y_A ?_ | with_reducible refine y_call ?_ | with_reducible refine y_M ?_ | with_reducible refine y_aComp ?_ | with_reducible refine y_rng1 ?_ | with_reducible refine y_over ?_ | with_reducible refine y_addI ?_ | with_reducible refine y_subI ?_ | with_reducible refine y_ltI ?_ | with_reducible refine y_leI ?_ | with_reducible refine y_gtI ?_ | with_reducible refine y_geI ?_ | with_reducible refine y_eqI ?_ | with_reducible refine y_neI ?_ | with_reducible refine y_eqB ?_ | with_reducible refine y_neB ?_ | with_reducible refine y_eqS ?_ | with_reducible refine y_neS ?_ | with_reducible refine y_isN ?_ | with_reducible refine y_isnN ?_ | with_reducible refine y_wget ?_ | with_reducible refine And.intro (len_ok (by with_unfolding_all exact rfl)) ?_))
    refine y_ix (ix_left h) ?_
    (repeat (first | with_reducible refine w_seq ?_ | with_reducible refine w_set ?_ | with_reducible refine w_expr ?_ | with_reducible refine w_ret ?_ | with_reducible refine w_retN ?_ | with_reducible refine w_store ?_ | with_reducible refine w_nop ?_ | with_reducible refine w_for ?_ | with_reducible refine w_asg ?_ | with_reducible refine w_ct ?_ | with_reducible refine w_brk ?_ | with_reducible refine y_f2 ?_ | with_reducible refine y_C ?_ | with_reducible refine y_var (by with_unfolding_all exact rfl) ?_ | with_reducible refine y_f1 ?_ | with_reducible refine y_B ?_ | with_reducible refine y_unB ?_ | with_reducible refine y_ch ?_ | with_reducible refine y_tru ?_ | with_reducible refine y_tbl ?_ | with_reducible refine y_and ?_ | with_reducible refine y_or ?_ | with_reducible refine y_not ?_ | with_reducible refine y_andV ?_ | with_reducible refine y_notV ?_ | with_reducible refine y_nil ?_ | with_reducible refine y_cons ?_ | with_reducible refine y_tup ?_ | with_reducible refine y_lst ?_ | with_reducible refine y_val ?_ | with_reducible refine y_loc ?_ | with_reducible refine y_dval ?_ | with_reducible refine y_dloc ?_ | with_reducible refine y_ice ?_ | with_reducible refine y_oNone ?_ | with_reducible refine y_oSome ?_ | with_reducible refine y_sl ?_ | with_reducible refine y_A ?_ | with_reducible refine y_call ?_ | with_reducible refine y_M ?_ | with_reducible refine y_aComp ?_ | with_reducible refine y_rng1 ?_ | with_reducible refine y_over ?_ | with_reducible refine y_addI ?_ | with_reducible refine y_subI ?_ | with_reducible refine y_ltI ?_ | with_reducible refine y_leI ?_ | with_reducible refine y_gtI ?_ | with_reducible refine y_geI ?_ | with_reducible refine y_eqI ?_ | with_reducible refine y_neI ?_ | with_reducible refine y_eqB ?_ | with_reducible refine y_neB ?_ | with_reducible refine y_eqS ?_ | with_reducible refine y_neS ?_ | with_reducible refine y_isN ?_ | with_reducible refine y_isnN ?_ | with_reducible refine y_wget ?_ | with_reducible refine And.intro (len_ok (by with_unfolding_all exact rfl)) ?_))
    refine y_fdivI h0 (log_lt h0 h1) ?_
    (repeat (first | with_reducible refine w_seq ?_ | with_reducible refine w_set ?_ | with_reducible refine w_expr ?_ | with_reducible refine w_ret ?_ | with_reducible refine w_retN ?_ | with_reducible refine w_store ?_ | with_reducible refine w_nop ?_ | with_reducible refine w_for ?_ | with_reducible refine w_asg ?_ | with_reducible refine w_ct ?_ | with_reducible refine w_brk ?_ | with_reducible refine y_f2 ?_ | with_reducible refine y_C ?_ | with_reducible refine y_var (by with_unfolding_all exact rfl) ?_ | with_reducible refine y_f1 ?_ | with_reducible refine y_B ?_ | with_reducible refine y_unB ?_ | with_reducible refine y_ch ?_ | with_reducible refine y_tru ?_ | with_reducible refine y_tbl ?_ | with_reducible refine y_and ?_ | with_reducible refine y_or ?_ | with_reducible refine y_not ?_ | with_reducible refine y_andV ?_ | with_reducible refine y_notV ?_ | with_reducible refine y_nil ?_ | with_reducible refine y_cons ?_ | with_reducible refine y_tup ?_ | with_reducible refine y_lst ?_ | with_reducible refine y_val ?_ | with_reducible refine y_loc ?_ | with_reducible refine y_dval ?_ | with_reducible refine y_dloc ?_ | with_reducible refine y_ice ?_ | with_reducible refine y_oNone ?_ | with_reducible refine y_oSome ?_ | with_reducible refine y_sl ?_ | with_reducible refine y_A ?_ | with_reducible refine y_call ?_ | with_reducible refine y_M ?_ | with_reducible refine y_aComp ?_ | with_reducible refine y_rng1 ?_ | with_reducible refine y_over ?_ | with_reducible refine y_addI ?_ | with_reducible refine y_subI ?_ | with_reducible refine y_ltI ?_ | with_reducible refine y_leI ?_ | with_reducible refine y_gtI ?_ | with_reducible refine y_geI ?_ | with_reducible refine y_eqI ?_ | with_reducible refine y_neI ?_ | with_reducible refine y_eqB ?_ | with_reducible refine y_neB ?_ | with_reducible refine y_eqS ?_ | with_reducible refine y_neS ?_ | with_reducible refine y_isN ?_ | with_reducible refine y_isnN ?_ | with_reducible refine y_wget ?_ | with_reducible refine And.intro (len_ok (by with_unfolding_all exact rfl)) ?_))
    refine ⟨_, st_left h, ?_⟩
    (repeat (first | with_reducible refine w_seq ?_ | with_reducible refine w_set ?_ | with_reducible refine w_expr ?_ | with_reducible refine w_ret ?_ | with_reducible refine w_retN ?_ | with_reducible refine w_store ?_ | with_reducible refine w_nop ?_ | with_reducible refine w_for ?_ | with_reducible refine w_asg ?_ | with_reducible refine w_ct ?_ | with_reducible refine w_brk ?_ | with_reducible refine y_f2 ?_ | with_reducible refine y_C ?_ | with_reducible refine y_var (by with_unfolding_all exact rfl) ?_ | with_reducible refine y_f1 ?_ | with_reducible refine y_B ?_ | with_reducible refine y_unB ?_ | with_reducible refine y_ch ?_ | with_reducible refine y_tru ?_ | with_reducible refine y_tbl ?_ | with_reducible refine y_and ?_ | with_reducible refine y_or ?_ | with_reducible refine y_not ?_ | with_reducible refine y_andV ?_ | with_reducible refine y_notV ?_ | with_reducible refine y_nil ?_ | with_reducible refine y_cons ?_ | with_reducible refine y_tup ?_ | with_reducible refine y_lst ?_ | with_reducible refine y_val ?_ | with_reducible refine y_loc ?_ | with_reducible refine y_dval ?_ | with_reducible refine y_dloc ?_ | with_reducible refine y_ice ?_ | with_reducible refine y_oNone ?_ | with_reducible refine y_oSome ?_ | with_reducible refine y_sl ?_ | with_reducible refine y_A ?_ | with_reducible refine y_call ?_ | with_reducible refine y_M ?_ | with_reducible refine y_aComp ?_ | with_reducible refine y_rng1 ?_ | with_reducible refine y_over ?_ | with_reducible refine y_addI ?_ | with_reducible refine y_subI ?_ | with_reducible refine y_ltI ?_ | with_reducible refine y_leI ?_ | with_reducible refine y_gtI ?_ | with_reducible refine y_geI ?_ | with_reducible refine y_eqI ?_ | with_reducible refine y_neI ?_ | with_reducible refine y_eqB ?_ | with_reducible refine y_neB ?_ | with_reducible refine y_eqS ?_ | with_reducible refine y_neS ?_ | with_reducible refine y_isN ?_ | with_reducible refine y_isnN ?_ | with_reducible refine y_wget ?_ | with_reducible refine And.intro (len_ok (by with_unfolding_all exact rfl)) ?_))
    refine ⟨lf % many, rfl, Int.emod_nonneg _ (by omega), Int.emod_lt_of_pos _ h0, ?_, ?_, ?_⟩
    · exact ⟨cs, sp, lf / many, List.getElem?_set_self hn, hl, hs0, by omega, Int.ediv_nonneg hf (by omega)⟩
    · exact List.length_set
    · exact Fr.set (List.mem_singleton.mpr rfl)
  · (repeat (first | with_reducible refine w_seq ?_ | with_reducible refine w_set ?_ | with_reducible refine w_expr ?_ | with_reducible refine w_ret ?_ | with_reducible refine w_retN ?_ | with_reducible refine w_store ?_ | with_reducible refine w_nop ?_ | with_reducible refine w_for ?_ | with_reducible refine w_asg ?_ | with_reducible refine w_ct ?_ | with_reducible refine w_brk ?_ | with_reducible refine y_f2 ?_ | with_reducible refine y_C ?_ | with_reducible refine y_var (by with_unfolding_all exact rfl) ?_ | with_reducible refine y_f1 ?_ | with_reducible refine y_B ?_ | with_reducible refine y_unB ?_ | with_reducible refine y_ch ?_ | with_reducible refine y_tru ?_ | with_reducible refine y_tbl ?_ | with_reducible refine y_and ?_ | with_reducible refine y_or ?_ | with_reducible refine y_not ?_ | with_reducible refine y_andV ?_ | with_reducible refine y_notV ?_ | with_reducible refine y_nil ?_ | with_reducible refine y_cons ?_ | with_reducible refine y_tup ?_ | with_reducible refine y_lst ?_ | with_reducible refine y_val ?_ | with_reducible refine y_loc ?_ | with_reducible refine y_dval ?_ | with_reducible refine y_dloc ?_ | with_reducible refine y_ice ?_ | with_reducible refine y_oNone ?_ | with_reducible refine y_oSome ?_ | with_reducible refine y_sl ?_ | with_reducible refine y_A ?_ | with_reducible refine y_call ?_ | with_reducible refine y_M ?_ | with_reducible refine y_aComp ?_ | with_reducible refine y_rng1 ?_ | with_reducible refine y_over ?_ | with_reducible refine y_addI ?_ | with_reducible refine y_subI ?_ | with_reducible refine y_ltI ?_ | with_reducible refine y_leI ?_ | with_reducible refine y_gtI ?_ | with_reducible refine y_geI ?_ | with_reducible refine y_eqI ?_ | with_reducible refine y_neI ?_ | with_reducible refine y_eqB ?_ | with_reducible refine y_neB ?_ | with_reducible refine y_eqS ?_ | with_reducible refine y_neS ?_ | with_reducible refine y_isN ?_ | with_reducible refine y_isnN ?_ | with_reducible refine y_wget ?_ | with_reducible refine And.intro (len_ok (by with_unfolding_all exact rfl)) ?_))
    refine y_ix (ix_spot h) ?_
    (repeat (first | with_reducible refine w_seq ?_ | with_reducible refine w_set ?_ | with_reducible refine w_expr ?_ | with_reducible refine w_ret ?_ | with_reducible refine w_retN ?_ | with_reducible refine w_store ?_ | with_reducible refine w_nop ?_ | with_reducible refine w_for ?_ | with_reducible refine w_asg ?_ | with_reducible refine w_ct ?_ | with_reducible refine w_brk ?_ | with_reducible refine y_f2 ?_ | with_reducible refine y_C ?_ | with_reducible refine y_var (by with_unfolding_all exact rfl) ?_ | with_reducible refine y_f1 ?_ | with_reducible refine y_B ?_ | with_reducible refine y_unB ?_ | with_reducible refine y_ch ?_ | with_reducible refine y_tru ?_ | with_reducible refine y_tbl ?_ | with_reducible refine y_and ?_ | with_reducible refine y_or ?_ | with_reducible refine y_not ?_ | with_reducible refine y_andV ?_ | with_reducible refine y_notV ?_ | with_reducible refine y_nil ?_ | with_reducible refine y_cons ?_ | with_reducible refine y_tup ?_ | with_reducible refine y_lst ?_ | with_reducible refine y_val ?_ | with_reducible refine y_loc ?_ | with_reducible refine y_dval ?_ | with_reducible refine y_dloc ?_ | with_reducible refine y_ice ?_ | with_reducible refine y_oNone ?_ | with_reducible refine y_oSome ?_ | with_reducible refine y_sl ?_ | with_reducible refine y_A ?_ | with_reducible refine y_call ?_ | with_reducible refine y_M ?_ | with_reducible refine y_aComp ?_ | with_reducible refine y_rng1 ?_ | with_reducible refine y_over ?_ | with_reducible refine y_addI ?_ | with_reducible refine y_subI ?_ | with_reducible refine y_ltI ?_ | with_reducible refine y_leI ?_ | with_reducible refine y_gtI ?_ | with_reducible refine y_geI ?_ | with_reducible refine y_eqI ?_ | with_reducible refine y_neI ?_ | with_reducible refine y_eqB ?_ | with_reducible refine y_neB ?_ | with_reducible refine y_eqS ?_ | with_reducible refine y_neS ?_ | with_reducible refine y_isN ?_ | with_reducible refine y_isnN ?_ | with_reducible refine y_wget ?_ | with_reducible refine And.intro (len_ok (by with_unfolding_all exact rfl)) ?_))
    refine ⟨_, st_spot h, ?_⟩
    have h2 : (S.set n (tapeO cs (sp + 1) lf))[n]? = some (tapeO cs (sp + 1) lf) := List.getElem?_set_self hn
    have f2 : Fr [n] S (S.set n (tapeO cs (sp + 1) lf)) := Fr.set (List.mem_singleton.mpr rfl)
    have l2 : (S.set n (tapeO cs (sp + 1) lf)).length = S.length := List.length_set
    generalize S.set n (tapeO cs (sp + 1) lf) = S2 at h2 f2 l2 ⊢
    (repeat (first | with_reducible refine w_seq ?_ | with_reducible refine w_set ?_ | with_reducible refine w_expr ?_ | with_reducible refine w_ret ?_ | with_reducible refine w_retN ?_ | with_reducible refine w_store ?_ | with_reducible refine w_nop ?_ | with_reducible refine w_for ?_ | with_reducible refine w_asg ?_ | with_reducible refine w_ct ?_ | with_reducible refine w_brk ?_ | with_reducible refine y_f2 ?_ | with_reducible refine y_C ?_ | with_reducible refine y_var (by with_unfolding_all exact rfl) ?_ | with_reducible refine y_f1 ?_ | with_reducible refine y_B ?_ | with_reducible refine y_unB ?_ | with_reducible refine y_ch ?_ | with_reducible refine y_tru ?_ | with_reducible refine y_tbl ?_ | with_reducible refine y_and ?_ | with_reducible refine y_or ?_ | with_reducible refine y_not ?_ | with_reducible refine y_andV ?_ | with_reducible refine y_notV ?_ | with_reducible refine y_nil ?_ | with_reducible refine y_cons ?_ | with_reducible refine y_tup ?_ | with_reducible refine y_lst ?_ | with_reducible refine y_val ?_ | with_reducible refine y_loc ?_ | with_reducible refine y_dval ?_ | with_reducible refine y_dloc ?_ | with_reducible refine y_ice ?_ | with_reducible refine y_oNone ?_ | with_reducible refine y_oSome ?_ | with_reducible refine y_sl ?_ | with_reducible refine y_A ?_ | with_reducible refine y_call ?_ | with_reducible refine y_M ?_ | with_reducible refine y_aComp ?_ | with_reducible refine y_rng1 ?_ | with_reducible refine y_over ?_ | with_reducible refine y_addI ?_ | with_reducible refine y_subI ?_ | with_reducible refine y_ltI ?_ | with_reducible refine y_leI ?_ | with_reducible refine y_gtI ?_ | with_reducible refine y_geI ?_ | with_reducible refine y_eqI ?_ | with_reducible refine y_neI ?_ | with_reducible refine y_eqB ?_ | with_reducible refine y_neB ?_ | with_reducible refine y_eqS ?_ | with_reducible refine y_neS ?_ | with_reducible refine y_isN ?_ | with_reducible refine y_isnN ?_ | with_reducible refine y_wget ?_ | with_reducible refine And.intro (len_ok (by with_unfolding_all exact rfl)) ?_))
    refine y_orC hl (show (oU (ixB (.loc n) (.str "cells") S2) S2) = _ by rw [ix_cells h2]; rfl) rfl fun ds d0 d1 => ?_
    (repeat (first | with_reducible refine w_seq ?_ | with_reducible refine w_set ?_ | with_reducible refine w_expr ?_ | with_reducible refine w_ret ?_ | with_reducible refine w_retN ?_ | with_reducible refine w_store ?_ | with_reducible refine w_nop ?_ | with_reducible refine w_for ?_ | with_reducible refine w_asg ?_ | with_reducible refine w_ct ?_ | with_reducible refine w_brk ?_ | with_reducible refine y_f2 ?_ | with_reducible refine y_C ?_ | with_reducible refine y_var (by with_unfolding_all exact rfl) ?_ | with_reducible refine y_f1 ?_ | with_reducible refine y_B ?_ | with_reducible refine y_unB ?_ | with_reducible refine y_ch ?_ | with_reducible refine y_tru ?_ | with_reducible refine y_tbl ?_ | with_reducible refine y_and ?_ | with_reducible refine y_or ?_ | with_reducible refine y_not ?_ | with_reducible refine y_andV ?_ | with_reducible refine y_notV ?_ | with_reducible refine y_nil ?_ | with_reducible refine y_cons ?_ | with_reducible refine y_tup ?_ | with_reducible refine y_lst ?_ | with_reducible refine y_val ?_ | with_reducible refine y_loc ?_ | with_reducible refine y_dval ?_ | with_reducible refine y_dloc ?_ | with_reducible refine y_ice ?_ | with_reducible refine y_oNone ?_ | with_reducible refine y_oSome ?_ | with_reducible refine y_sl ?_ | with_reducible refine y_A ?_ | with_reducible refine y_call ?_ | with_reducible refine y_M ?_ | with_reducible refine y_aComp ?_ | with_reducible refine y_rng1 ?_ | with_reducible refine y_over ?_ | with_reducible refine y_addI ?_ | with_reducible refine y_subI ?_ | with_reducible refine y_ltI ?_ | with_reducible refine y_leI ?_ | with_reducible refine y_gtI ?_ | with_reducible refine y_geI ?_ | with_reducible refine y_eqI ?_ | with_reducible refine y_neI ?_ | with_reducible refine y_eqB ?_ | with_reducible refine y_neB ?_ | with_reducible refine y_eqS ?_ | with_reducible refine y_neS ?_ | with_reducible refine y_isN ?_ | with_reducible refine y_isnN ?_ | with_reducible refine y_wget ?_ | with_reducible refine And.intro (len_ok (by with_unfolding_all exact rfl)) ?_))
    refine y_lenL ?_
    rw [List.length_map]
    refine y_modI (by omega) ?_
    refine y_ixI (Int.emod_nonneg _ (by omega)) (Int.emod_lt_of_pos _ (by omega)) fun cell => ?_
    (repeat (first | with_reducible refine w_seq ?_ | with_reducible refine w_set ?_ | with_reducible refine w_expr ?_ | with_reducible refine w_ret ?_ | with_reducible refine w_retN ?_ | with_reducible refine w_store ?_ | with_reducible refine w_nop ?_ | with_reducible refine w_for ?_ | with_reducible refine w_asg ?_ | with_reducible refine w_ct ?_ | with_reducible refine w_brk ?_ | with_reducible refine y_f2 ?_ | with_reducible refine y_C ?_ | with_reducible refine y_var (by with_unfolding_all exact rfl) ?_ | with_reducible refine y_f1 ?_ | with_reducible refine y_B ?_ | with_reducible refine y_unB ?_ | with_reducible refine y_ch ?_ | with_reducible refine y_tru ?_ | with_reducible refine y_tbl ?_ | with_reducible refine y_and ?_ | with_reducible refine y_or ?_ | with_reducible refine y_not ?_ | with_reducible refine y_andV ?_ | with_reducible refine y_notV ?_ | with_reducible refine y_nil ?_ | with_reducible refine y_cons ?_ | with_reducible refine y_tup ?_ | with_reducible refine y_lst ?_ | with_reducible refine y_val ?_ | with_reducible refine y_loc ?_ | with_reducible refine y_dval ?_ | with_reducible refine y_dloc ?_ | with_reducible refine y_ice ?_ | with_reducible refine y_oNone ?_ | with_reducible refine y_oSome ?_ | with_reducible refine y_sl ?_ | with_reducible refine y_A ?_ | with_reducible refine y_call ?_ | with_reducible refine y_M ?_ | with_reducible refine y_aComp ?_ | with_reducible refine y_rng1 ?_ | with_reducible refine y_over ?_ | with_reducible refine y_addI ?_ | with_reducible refine y_subI ?_ | with_reducible refine y_ltI ?_ | with_reducible refine y_leI ?_ | with_reducible refine y_gtI ?_ | with_reducible refine y_geI ?_ | with_reducible refine y_eqI ?_ | with_reducible refine y_neI ?_ | with_reducible refine y_eqB ?_ | with_reducible refine y_neB ?_ | with_reducible refine y_eqS ?_ | with_reducible refine y_neS ?_ | with_reducible refine y_isN ?_ | with_reducible refine y_isnN ?_ | with_reducible refine y_wget ?_ | with_reducible refine And.intro (len_ok (by with_unfolding_all exact rfl)) ?_))
    refine w_ifP (fun b => b = true → 1000000000000000000 ≤ cell) ?_ (fun hc => ?_) (fun _ => ?_)
    · (repeat (first | with_reducible refine w_seq ?_ | with_reducible refine w_set ?_ | with_reducible refine w_expr ?_ | with_reducible refine w_ret ?_ | with_reducible refine w_retN ?_ | with_reducible refine w_store ?_ | with_reducible refine w_nop ?_ | with_reducible refine w_for ?_ | with_reducible refine w_asg ?_ | with_reducible refine w_ct ?_ | with_reducible refine w_brk ?_ | with_reducible refine y_f2 ?_ | with_reducible refine y_C ?_ | with_reducible refine y_var (by with_unfolding_all exact rfl) ?_ | with_reducible refine y_f1 ?_ | with_reducible refine y_B ?_ | with_reducible refine y_unB ?_ | with_reducible refine y_ch ?_ | with_reducible refine y_tru ?_ | with_reducible refine y_tbl ?_ | with_reducible refine y_and ?_ | with_reducible refine y_or ?_ | with_reducible refine y_not ?_ | with_reducible refine y_andV ?_ | with_reducible refine y_notV ?_ | with_reducible refine y_nil ?_ | with_reducible refine y_cons ?_ | with_reducible refine y_tup ?_ | with_reducible refine y_lst ?_ | with_reducible refine y_val ?_ | with_reducible refine y_loc ?_ | with_reducible refine y_dval ?_ | with_reducible refine y_dloc ?_ | with_reducible refine y_ice ?_ | with_reducible refine y_oNone ?_ | with_reducible refine y_oSome ?_ | with_reducible refine y_sl ?_ | with_reducible refine y_A ?_ | with_reducible refine y_call ?_ | with_reducible refine y_M ?_ | with_reducible refine y_aComp ?_ | with_reducible refine y_rng1 ?_ | with_reducible refine y_over ?_ | with_reducible refine y_addI ?_ | with_reducible refine y_subI ?_ | with_reducible refine y_ltI ?_ | with_reducible refine y_leI ?_ | with_reducible refine y_gtI ?_ | with_reducible refine y_geI ?_ | with_reducible refine y_eqI ?_ | with_reducible refine y_neI ?_ | with_reducible refine y_eqB ?_ | with_reducible refine y_neB ?_ | with_reducible refine y_eqS ?_ | with_reducible refine y_neS ?_ | with_reducible refine y_isN ?_ | with_reducible refine y_isnN ?_ | with_reducible refine y_wget ?_ | with_reducible refine And.intro (len_ok (by with_unfolding_all exact rfl)) ?_))
      refine y_powI (by decide) (by decide) (by decide) ?_
      rw [pow18]
      (repeat (first | with_reducible refine w_seq ?_ | with_reducible refine w_set ?_ | with_reducible refine w_expr ?_ | with_reducible refine w_ret ?_ | with_reducible refine w_retN ?_ | with_reducible refine w_store ?_ | with_reducible refine w_nop ?_ | with_reducible refine w_for ?_ | with_reducible refine w_asg ?_ | with_reducible refine w_ct ?_ | with_reducible refine w_brk ?_ | with_reducible refine y_f2 ?_ | with_reducible refine y_C ?_ | with_reducible refine y_var (by with_unfolding_all exact rfl) ?_ | with_reducible refine y_f1 ?_ | with_reducible refine y_B ?_ | with_reducible refine y_unB ?_ | with_reducible refine y_ch ?_ | with_reducible refine y_tru ?_ | with_reducible refine y_tbl ?_ | with_reducible refine y_and ?_ | with_reducible refine y_or ?_ | with_reducible refine y_not ?_ | with_reducible refine y_andV ?_ | with_reducible refine y_notV ?_ | with_reducible refine y_nil ?_ | with_reducible refine y_cons ?_ | with_reducible refine y_tup ?_ | with_reducible refine y_lst ?_ | with_reducible refine y_val ?_ | with_reducible refine y_loc ?_ | with_reducible refine y_dval ?_ | with_reducible refine y_dloc ?_ | with_reducible refine y_ice ?_ | with_reducible refine y_oNone ?_ | with_reducible refine y_oSome ?_ | with_reducible refine y_sl ?_ | with_reducible refine y_A ?_ | with_reducible refine y_call ?_ | with_reducible refine y_M ?_ | with_reducible refine y_aComp ?_ | with_reducible refine y_rng1 ?_ | with_reducible refine y_over ?_ | with_reducible refine y_addI ?_ | with_reducible refine y_subI ?_ | with_reducible refine y_ltI ?_ | with_reducible refine y_leI ?_ | with_reducible refine y_gtI ?_ | with_reducible refine y_geI ?_ | with_reducible refine y_eqI ?_ | with_reducible refine y_neI ?_ | with_reducible refine y_eqB ?_ | with_reducible refine y_neB ?_ | with_reducible refine y_eqS ?_ | with_reducible refine y_neS ?_ | with_reducible refine y_isN ?_ | with_reducible refine y_isnN ?_ | with_reducible refine y_wget ?_ | with_reducible refine And.intro (len_ok (by with_unfolding_all exact rfl)) ?_))
      refine ite_b (fun c1 => ?_) (fun c1 => ?_)
      · (repeat (first | with_reducible refine w_seq ?_ | with_reducible refine w_set ?_ | with_reducible refine w_expr ?_ | with_reducible refine w_ret ?_ | with_reducible refine w_retN ?_ | with_reducible refine w_store ?_ | with_reducible refine w_nop ?_ | with_reducible refine w_for ?_ | with_reducible refine w_asg ?_ | with_reducible refine w_ct ?_ | with_reducible refine w_brk ?_ | with_reducible refine y_f2 ?_ | with_reducible refine y_C ?_ | with_reducible refine y_var (by with_unfolding_all exact rfl) ?_ | with_reducible refine y_f1 ?_ | with_reducible refine y_B ?_ | with_reducible refine y_unB ?_ | with_reducible refine y_ch ?_ | with_reducible refine y_tru ?_ | with_reducible refine y_tbl ?_ | with_reducible refine y_and ?_ | with_reducible refine y_or ?_ | with_reducible refine y_not ?_ | with_reducible refine y_andV ?_ | with_reducible refine y_notV ?_ | with_reducible refine y_nil ?_ | with_reducible refine y_cons ?_ | with_reducible refine y_tup ?_ | with_reducible refine y_lst ?_ | with_reducible refine y_val ?_ | with_reducible refine y_loc ?_ | with_reducible refine y_dval ?_ | with_reducible refine y_dloc ?_ | with_reducible refine y_ice ?_ | with_reducible refine y_oNone ?_ | with_reducible refine y_oSome ?_ | with_reducible refine y_sl ?_ | with_reducible refine y_A ?_ | with_reducible refine y_call ?_ | with_reducible refine y_M ?_ | with_reducible refine y_aComp ?_ | with_reducible refine y_rng1 ?_ | with_reducible refine y_over ?_ | with_reducible refine y_addI ?_ | with_reducible refine y_subI ?_ | with_reducible refine y_ltI ?_ | with_reducible refine y_leI ?_ | with_reducible refine y_gtI ?_ | with_reducible refine y_geI ?_ | with_reducible refine y_eqI ?_ | with_reducible refine y_neI ?_ | with_reducible refine y_eqB ?_ | with_reducible refine y_neB ?_ | with_reducible refine y_eqS ?_ | with_reducible refine y_neS ?_ | with_reducible refine y_isN ?_ | with_reducible refine y_isnN ?_ | with_reducible refine y_wget ?_ | with_reducible refine And.intro (len_ok (by with_unfolding_all exact rfl)) ?_))
        refine y_lenL ?_
        (repeat (first | with_reducible refine w_seq ?_ | with_reducible refine w_set ?_ | with_reducible refine w_expr ?_ | with_reducible refine w_ret ?_ | with_reducible refine w_retN ?_ | with_reducible refine w_store ?_ | with_reducible refine w_nop ?_ | with_reducible refine w_for ?_ | with_reducible refine w_asg ?_ | with_reducible refine w_ct ?_ | with_reducible refine w_brk ?_ | with_reducible refine y_f2 ?_ | with_reducible refine y_C ?_ | with_reducible refine y_var (by with_unfolding_all exact rfl) ?_ | with_reducible refine y_f1 ?_ | with_reducible refine y_B ?_ | with_reducible refine y_unB ?_ | with_reducible refine y_ch ?_ | with_reducible refine y_tru ?_ | with_reducible refine y_tbl ?_ | with_reducible refine y_and ?_ | with_reducible refine y_or ?_ | with_reducible refine y_not ?_ | with_reducible refine y_andV ?_ | with_reducible refine y_notV ?_ | with_reducible refine y_nil ?_ | with_reducible refine y_cons ?_ | with_reducible refine y_tup ?_ | with_reducible refine y_lst ?_ | with_reducible refine y_val ?_ | with_reducible refine y_loc ?_ | with_reducible refine y_dval ?_ | with_reducible refine y_dloc ?_ | with_reducible refine y_ice ?_ | with_reducible refine y_oNone ?_ | with_reducible refine y_oSome ?_ | with_reducible refine y_sl ?_ | with_reducible refine y_A ?_ | with_reducible refine y_call ?_ | with_reducible refine y_M ?_ | with_reducible refine y_aComp ?_ | with_reducible refine y_rng1 ?_ | with_reducible refine y_over ?_ | with_reducible refine y_addI ?_ | with_reducible refine y_subI ?_ | with_reducible refine y_ltI ?_ | with_reducible refine y_leI ?_ | with_reducible refine y_gtI ?_ | with_reducible refine y_geI ?_ | with_reducible refine y_eqI ?_ | with_reducible refine y_neI ?_ | with_reducible refine y_eqB ?_ | with_reducible refine y_neB ?_ | with_reducible refine y_eqS ?_ | with_reducible refine y_neS ?_ | with_reducible refine y_isN ?_ | with_reducible refine y_isnN ?_ | with_reducible refine y_wget ?_ | with_reducible refine And.intro (len_ok (by with_unfolding_all exact rfl)) ?_))
        exact ⟨rfl, fun _ => of_decide_eq_true c1⟩
      · exact ⟨rfl, fun h => by cases h⟩
    · have hc := hc rfl
      (repeat (first | with_reducible refine w_seq ?_ | with_reducible refine w_set ?_ | with_reducible refine w_expr ?_ | with_reducible refine w_ret ?_ | with_reducible refine w_retN ?_ | with_reducible refine w_store ?_ | with_reducible refine w_nop ?_ | with_reducible refine w_for ?_ | with_reducible refine w_asg ?_ | with_reducible refine w_ct ?_ | with_reducible refine w_brk ?_ | with_reducible refine y_f2 ?_ | with_reducible refine y_C ?_ | with_reducible refine y_var (by with_unfolding_all exact rfl) ?_ | with_reducible refine y_f1 ?_ | with_reducible refine y_B ?_ | with_reducible refine y_unB ?_ | with_reducible refine y_ch ?_ | with_reducible refine y_tru ?_ | with_reducible refine y_tbl ?_ | with_reducible refine y_and ?_ | with_reducible refine y_or ?_ | with_reducible refine y_not ?_ | with_reducible refine y_andV ?_ | with_reducible refine y_notV ?_ | with_reducible refine y_nil ?_ | with_reducible refine y_cons ?_ | with_reducible refine y_tup ?_ | with_reducible refine y_lst ?_ | with_reducible refine y_val ?_ | with_reducible refine y_loc ?_ | with_reducible refine y_dval ?_ | with_reducible refine y_dloc ?_ | with_reducible refine y_ice ?_ | with_reducible refine y_oNone ?_ | with_reducible refine y_oSome ?_ | with_reducible refine y_sl ?_ | with_reducible refine y_A ?_ | with_reducible refine y_call ?_ | with_reducible refine y_M ?_ | with_reducible refine y_aComp ?_ | with_reducible refine y_rng1 ?_ | with_reducible refine y_over ?_ | with_reducible refine y_addI ?_ | with_reducible refine y_subI ?_ | with_reducible refine y_ltI ?_ | with_reducible refine y_leI ?_ | with_reducible refine y_gtI ?_ | with_reducible refine y_geI ?_ | with_reducible refine y_eqI ?_ | with_reducible refine y_neI ?_ | with_reducible refine y_eqB ?_ | with_reducible refine y_neB ?_ | with_reducible refine y_eqS ?_ | with_reducible refine y_neS ?_ | with_reducible refine y_isN ?_ | with_reducible refine y_isnN ?_ | with_reducible refine y_wget ?_ | with_reducible refine And.intro (len_ok (by with_unfolding_all exact rfl)) ?_))
      refine y_powI (by decide) (by decide) (by decide) ?_
      rw [pow18]
      (repeat (first | with_reducible refine w_seq ?_ | with_reducible refine w_set ?_ | with_reducible refine w_expr ?_ | with_reducible refine w_ret ?_ | with_reducible refine w_retN ?_ | with_reducible refine w_store ?_ | with_reducible refine w_nop ?_ | with_reducible refine w_for ?_ | with_reducible refine w_asg ?_ | with_reducible refine w_ct ?_ | with_reducible refine w_brk ?_ | with_reducible refine y_f2 ?_ | with_reducible refine y_C ?_ | with_reducible refine y_var (by with_unfolding_all exact rfl) ?_ | with_reducible refine y_f1 ?_ | with_reducible refine y_B ?_ | with_reducible refine y_unB ?_ | with_reducible refine y_ch ?_ | with_reducible refine y_tru ?_ | with_reducible refine y_tbl ?_ | with_reducible refine y_and ?_ | with_reducible refine y_or ?_ | with_reducible refine y_not ?_ | with_reducible refine y_andV ?_ | with_reducible refine y_notV ?_ | with_reducible refine y_nil ?_ | with_reducible refine y_cons ?_ | with_reducible refine y_tup ?_ | with_reducible refine y_lst ?_ | with_reducible refine y_val ?_ | with_reducible refine y_loc ?_ | with_reducible refine y_dval ?_ | with_reducible refine y_dloc ?_ | with_reducible refine y_ice ?_ | with_reducible refine y_oNone ?_ | with_reducible refine y_oSome ?_ | with_reducible refine y_sl ?_ | with_reducible refine y_A ?_ | with_reducible refine y_call ?_ | with_reducible refine y_M ?_ | with_reducible refine y_aComp ?_ | with_reducible refine y_rng1 ?_ | with_reducible refine y_over ?_ | with_reducible refine y_addI ?_ | with_reducible refine y_subI ?_ | with_reducible refine y_ltI ?_ | with_reducible refine y_leI ?_ | with_reducible refine y_gtI ?_ | with_reducible refine y_geI ?_ | with_reducible refine y_eqI ?_ | with_reducible refine y_neI ?_ | with_reducible refine y_eqB ?_ | with_reducible refine y_neB ?_ | with_reducible refine y_eqS ?_ | with_reducible refine y_neS ?_ | with_reducible refine y_isN ?_ | with_reducible refine y_isnN ?_ | with_reducible refine y_wget ?_ | with_reducible refine And.intro (len_ok (by with_unfolding_all exact rfl)) ?_))
      refine y_fdivI h0 (log_lt h0 h1) ?_
      (repeat (first | with_reducible refine w_seq ?_ | with_reducible refine w_set ?_ | with_reducible refine w_expr ?_ | with_reducible refine w_ret ?_ | with_reducible refine w_retN ?_ | with_reducible refine w_store ?_ | with_reducible refine w_nop ?_ | with_reducible refine w_for ?_ | with_reducible refine w_asg ?_ | with_reducible refine w_ct ?_ | with_reducible refine w_brk ?_ | with_reducible refine y_f2 ?_ | with_reducible refine y_C ?_ | with_reducible refine y_var (by with_unfolding_all exact rfl) ?_ | with_reducible refine y_f1 ?_ | with_reducible refine y_B ?_ | with_reducible refine y_unB ?_ | with_reducible refine y_ch ?_ | with_reducible refine y_tru ?_ | with_reducible refine y_tbl ?_ | with_reducible refine y_and ?_ | with_reducible refine y_or ?_ | with_reducible refine y_not ?_ | with_reducible refine y_andV ?_ | with_reducible refine y_notV ?_ | with_reducible refine y_nil ?_ | with_reducible refine y_cons ?_ | with_reducible refine y_tup ?_ | with_reducible refine y_lst ?_ | with_reducible refine y_val ?_ | with_reducible refine y_loc ?_ | with_reducible refine y_dval ?_ | with_reducible refine y_dloc ?_ | with_reducible refine y_ice ?_ | with_reducible refine y_oNone ?_ | with_reducible refine y_oSome ?_ | with_reducible refine y_sl ?_ | with_reducible refine y_A ?_ | with_reducible refine y_call ?_ | with_reducible refine y_M ?_ | with_reducible refine y_aComp ?_ | with_reducible refine y_rng1 ?_ | with_reducible refine y_over ?_ | with_reducible refine y_addI ?_ | with_reducible refine y_subI ?_ | with_reducible refine y_ltI ?_ | with_reducible refine y_leI ?_ | with_reducible refine y_gtI ?_ | with_reducible refine y_geI ?_ | with_reducible refine y_eqI ?_ | with_reducible refine y_neI ?_ | with_reducible refine y_eqB ?_ | with_reducible refine y_neB ?_ | with_reducible refine y_eqS ?_ | with_reducible refine y_neS ?_ | with_reducible refine y_isN ?_ | with_reducible refine y_isnN ?_ | with_reducible refine y_wget ?_ | with_reducible refine And.intro (len_ok (by with_unfolding_all exact rfl)) ?_))
      refine ⟨_, st_left h2, ?_⟩
      (repeat (first | with_reducible refine w_seq ?_ | with_reducible refine w_set ?_ | with_reducible refine w_expr ?_ | with_reducible refine w_ret ?_ | with_reducible refine w_retN ?_ | with_reducible refine w_store ?_ | with_reducible refine w_nop ?_ | with_reducible refine w_for ?_ | with_reducible refine w_asg ?_ | with_reducible refine w_ct ?_ | with_reducible refine w_brk ?_ | with_reducible refine y_f2 ?_ | with_reducible refine y_C ?_ | with_reducible refine y_var (by with_unfolding_all exact rfl) ?_ | with_reducible refine y_f1 ?_ | with_reducible refine y_B ?_ | with_reducible refine y_unB ?_ | with_reducible refine y_ch ?_ | with_reducible refine y_tru ?_ | with_reducible refine y_tbl ?_ | with_reducible refine y_and ?_ | with_reducible refine y_or ?_ | with_reducible refine y_not ?_ | with_reducible refine y_andV ?_ | with_reducible refine y_notV ?_ | with_reducible refine y_nil ?_ | with_reducible refine y_cons ?_ | with_reducible refine y_tup ?_ | with_reducible refine y_lst ?_ | with_reducible refine y_val ?_ | with_reducible refine y_loc ?_ | with_reducible refine y_dval ?_ | with_reducible refine y_dloc ?_ | with_reducible refine y_ice ?_ | with_reducible refine y_oNone ?_ | with_reducible refine y_oSome ?_ | with_reducible refine y_sl ?_ | with_reducible refine y_A ?_ | with_reducible refine y_call ?_ | with_reducible refine y_M ?_ | with_reducible refine y_aComp ?_ | with_reducible refine y_rng1 ?_ | with_reducible refine y_over ?_ | with_reducible refine y_addI ?_ | with_reducible refine y_subI ?_ | with_reducible refine y_ltI ?_ | with_reducible refine y_leI ?_ | with_reducible refine y_gtI ?_ | with_reducible refine y_geI ?_ | with_reducible refine y_eqI ?_ | with_reducible refine y_neI ?_ | with_reducible refine y_eqB ?_ | with_reducible refine y_neB ?_ | with_reducible refine y_eqS ?_ | with_reducible refine y_neS ?_ | with_reducible refine y_isN ?_ | with_reducible refine y_isnN ?_ | with_reducible refine y_wget ?_ | with_reducible refine And.intro (len_ok (by with_unfolding_all exact rfl)) ?_))
      refine y_powI (by decide) (by decide) (by decide) ?_
      rw [pow18]
      (repeat (first | with_reducible refine w_seq ?_ | with_reducible refine w_set ?_ | with_reducible refine w_expr ?_ | with_reducible refine w_ret ?_ | with_reducible refine w_retN ?_ | with_reducible refine w_store ?_ | with_reducible refine w_nop ?_ | with_reducible refine w_for ?_ | with_reducible refine w_asg ?_ | with_reducible refine w_ct ?_ | with_reducible refine w_brk ?_ | with_reducible refine y_f2 ?_ | with_reducible refine y_C ?_ | with_reducible refine y_var (by with_unfolding_all exact rfl) ?_ | with_reducible refine y_f1 ?_ | with_reducible refine y_B ?_ | with_reducible refine y_unB ?_ | with_reducible refine y_ch ?_ | with_reducible refine y_tru ?_ | with_reducible refine y_tbl ?_ | with_reducible refine y_and ?_ | with_reducible refine y_or ?_ | with_reducible refine y_not ?_ | with_reducible refine y_andV ?_ | with_reducible refine y_notV ?_ | with_reducible refine y_nil ?_ | with_reducible refine y_cons ?_ | with_reducible refine y_tup ?_ | with_reducible refine y_lst ?_ | with_reducible refine y_val ?_ | with_reducible refine y_loc ?_ | with_reducible refine y_dval ?_ | with_reducible refine y_dloc ?_ | with_reducible refine y_ice ?_ | with_reducible refine y_oNone ?_ | with_reducible refine y_oSome ?_ | with_reducible refine y_sl ?_ | with_reducible refine y_A ?_ | with_reducible refine y_call ?_ | with_reducible refine y_M ?_ | with_reducible refine y_aComp ?_ | with_reducible refine y_rng1 ?_ | with_reducible refine y_over ?_ | with_reducible refine y_addI ?_ | with_reducible refine y_subI ?_ | with_reducible refine y_ltI ?_ | with_reducible refine y_leI ?_ | with_reducible refine y_gtI ?_ | with_reducible refine y_geI ?_ | with_reducible refine y_eqI ?_ | with_reducible refine y_neI ?_ | with_reducible refine y_eqB ?_ | with_reducible refine y_neB ?_ | with_reducible refine y_eqS ?_ | with_reducible refine y_neS ?_ | with_reducible refine y_isN ?_ | with_reducible refine y_isnN ?_ | with_reducible refine y_wget ?_ | with_reducible refine And.intro (len_ok (by with_unfolding_all exact rfl)) ?_))
      refine y_modI h0 ?_
      (repeat (first | with_reducible refine w_seq ?_ | with_reducible refine w_set ?_ | with_reducible refine w_expr ?_ | with_reducible refine w_ret ?_ | with_reducible refine w_retN ?_ | with_reducible refine w_store ?_ | with_reducible refine w_nop ?_ | with_reducible refine w_for ?_ | with_reducible refine w_asg ?_ | with_reducible refine w_ct ?_ | with_reducible refine w_brk ?_ | with_reducible refine y_f2 ?_ | with_reducible refine y_C ?_ | with_reducible refine y_var (by with_unfolding_all exact rfl) ?_ | with_reducible refine y_f1 ?_ | with_reducible refine y_B ?_ | with_reducible refine y_unB ?_ | with_reducible refine y_ch ?_ | with_reducible refine y_tru ?_ | with_reducible refine y_tbl ?_ | with_reducible refine y_and ?_ | with_reducible refine y_or ?_ | with_reducible refine y_not ?_ | with_reducible refine y_andV ?_ | with_reducible refine y_notV ?_ | with_reducible refine y_nil ?_ | with_reducible refine y_cons ?_ | with_reducible refine y_tup ?_ | with_reducible refine y_lst ?_ | with_reducible refine y_val ?_ | with_reducible refine y_loc ?_ | with_reducible refine y_dval ?_ | with_reducible refine y_dloc ?_ | with_reducible refine y_ice ?_ | with_reducible refine y_oNone ?_ | with_reducible refine y_oSome ?_ | with_reducible refine y_sl ?_ | with_reducible refine y_A ?_ | with_reducible refine y_call ?_ | with_reducible refine y_M ?_ | with_reducible refine y_aComp ?_ | with_reducible refine y_rng1 ?_ | with_reducible refine y_over ?_ | with_reducible refine y_addI ?_ | with_reducible refine y_subI ?_ | with_reducible refine y_ltI ?_ | with_reducible refine y_leI ?_ | with_reducible refine y_gtI ?_ | with_reducible refine y_geI ?_ | with_reducible refine y_eqI ?_ | with_reducible refine y_neI ?_ | with_reducible refine y_eqB ?_ | with_reducible refine y_neB ?_ | with_reducible refine y_eqS ?_ | with_reducible refine y_neS ?_ | with_reducible refine y_isN ?_ | with_reducible refine y_isnN ?_ | with_reducible refine y_wget ?_ | with_reducible refine And.intro (len_ok (by with_unfolding_all exact rfl)) ?_))
      refine ⟨_, rfl, Int.emod_nonneg _ (by omega), Int.emod_lt_of_pos _ h0, ?_, ?_, ?_⟩
      · exact ⟨cs, sp + 1, (cell - 1000000000000000000) / many, List.getElem?_set_self (by omega), hl, by omega, by omega, Int.ediv_nonneg (by omega) (by omega)⟩
      · rw [List.length_set]; exact l2
      · exact f2.trans (Fr.set (List.mem_singleton.mpr rfl))
    have hm0 : 0 ≤ sp % 7 := Int.emod_nonneg _ (by decide)
    have hm1 : sp % 7 < 7 := Int.emod_lt_of_pos _ (by decide)
    (repeat (first | with_reducible refine w_seq ?_ | with_reducible refine w_set ?_ | with_reducible refine w_expr ?_ | with_reducible refine w_ret ?_ | with_reducible refine w_retN ?_ | with_reducible refine w_store ?_ | with_reducible refine w_nop ?_ | with_reducible refine w_for ?_ | with_reducible refine w_asg ?_ | with_reducible refine w_ct ?_ | with_reducible refine w_brk ?_ | with_reducible refine y_f2 ?_ | with_reducible refine y_C ?_ | with_reducible refine y_var (by with_unfolding_all exact rfl) ?_ | with_reducible refine y_f1 ?_ | with_reducible refine y_B ?_ | with_reducible refine y_unB ?_ | with_reducible refine y_ch ?_ | with_reducible refine y_tru ?_ | with_reducible refine y_tbl ?_ | with_reducible refine y_and ?_ | with_reducible refine y_or ?_ | with_reducible refine y_not ?_ | with_reducible refine y_andV ?_ | with_reducible refine y_notV ?_ | with_reducible refine y_nil ?_ | with_reducible refine y_cons ?_ | with_reducible refine y_tup ?_ | with_reducible refine y_lst ?_ | with_reducible refine y_val ?_ | with_reducible refine y_loc ?_ | with_reducible refine y_dval ?_ | with_reducible refine y_dloc ?_ | with_reducible refine y_ice ?_ | with_reducible refine y_oNone ?_ | with_reducible refine y_oSome ?_ | with_reducible refine y_sl ?_ | with_reducible refine y_A ?_ | with_reducible refine y_call ?_ | with_reducible refine y_M ?_ | with_reducible refine y_aComp ?_ | with_reducible refine y_rng1 ?_ | with_reducible refine y_over ?_ | with_reducible refine y_addI ?_ | with_reducible refine y_subI ?_ | with_reducible refine y_ltI ?_ | with_reducible refine y_leI ?_ | with_reducible refine y_gtI ?_ | with_reducible refine y_geI ?_ | with_reducible refine y_eqI ?_ | with_reducible refine y_neI ?_ | with_reducible refine y_eqB ?_ | with_reducible refine y_neB ?_ | with_reducible refine y_eqS ?_ | with_reducible refine y_neS ?_ | with_reducible refine y_isN ?_ | with_reducible refine y_isnN ?_ | with_reducible refine y_wget ?_ | with_reducible refine And.intro (len_ok (by with_unfolding_all exact rfl)) ?_))
    refine y_modI (by decide) ?_
    refine y_ixL hm0 hm1 fun p hp _ => ?_
    obtain ⟨p, rfl, hp0, hp1⟩ : ∃ i : Int, p = .int i ∧ 2147483543 ≤ i ∧ i ≤ 2147483647 := primes_in hp
    (repeat (first | with_reducible refine w_seq ?_ | with_reducible refine w_set ?_ | with_reducible refine w_expr ?_ | with_reducible refine w_ret ?_ | with_reducible refine w_retN ?_ | with_reducible refine w_store ?_ | with_reducible refine w_nop ?_ | with_reducible refine w_for ?_ | with_reducible refine w_asg ?_ | with_reducible refine w_ct ?_ | with_reducible refine w_brk ?_ | with_reducible refine y_f2 ?_ | with_reducible refine y_C ?_ | with_reducible refine y_var (by with_unfolding_all exact rfl) ?_ | with_reducible refine y_f1 ?_ | with_reducible refine y_B ?_ | with_reducible refine y_unB ?_ | with_reducible refine y_ch ?_ | with_reducible refine y_tru ?_ | with_reducible refine y_tbl ?_ | with_reducible refine y_and ?_ | with_reducible refine y_or ?_ | with_reducible refine y_not ?_ | with_reducible refine y_andV ?_ | with_reducible refine y_notV ?_ | with_reducible refine y_nil ?_ | with_reducible refine y_cons ?_ | with_reducible refine y_tup ?_ | with_reducible refine y_lst ?_ | with_reducible refine y_val ?_ | with_reducible refine y_loc ?_ | with_reducible refine y_dval ?_ | with_reducible refine y_dloc ?_ | with_reducible refine y_ice ?_ | with_reducible refine y_oNone ?_ | with_reducible refine y_oSome ?_ | with_reducible refine y_sl ?_ | with_reducible refine y_A ?_ | with_reducible refine y_call ?_ | with_reducible refine y_M ?_ | with_reducible refine y_aComp ?_ | with_reducible refine y_rng1 ?_ | with_reducible refine y_over ?_ | with_reducible refine y_addI ?_ | with_reducible refine y_subI ?_ | with_reducible refine y_ltI ?_ | with_reducible refine y_leI ?_ | with_reducible refine y_gtI ?_ | with_reducible refine y_geI ?_ | with_reducible refine y_eqI ?_ | with_reducible refine y_neI ?_ | with_reducible refine y_eqB ?_ | with_reducible refine y_neB ?_ | with_reducible refine y_eqS ?_ | with_reducible refine y_neS ?_ | with_reducible refine y_isN ?_ | with_reducible refine y_isnN ?_ | with_reducible refine y_wget ?_ | with_reducible refine And.intro (len_ok (by with_unfolding_all exact rfl)) ?_))
    refine y_modI (by omega) ?_
    have c0 := Int.emod_nonneg cell (by omega : p ≠ 0)
    have c1 := Int.emod_lt_of_pos cell (by omega : 0 < p)
    (repeat (first | with_reducible refine w_seq ?_ | with_reducible refine w_set ?_ | with_reducible refine w_expr ?_ | with_reducible refine w_ret ?_ | with_reducible refine w_retN ?_ | with_reducible refine w_store ?_ | with_reducible refine w_nop ?_ | with_reducible refine w_for ?_ | with_reducible refine w_asg ?_ | with_reducible refine w_ct ?_ | with_reducible refine w_brk ?_ | with_reducible refine y_f2 ?_ | with_reducible refine y_C ?_ | with_reducible refine y_var (by with_unfolding_all exact rfl) ?_ | with_reducible refine y_f1 ?_ | with_reducible refine y_B ?_ | with_reducible refine y_unB ?_ | with_reducible refine y_ch ?_ | with_reducible refine y_tru ?_ | with_reducible refine y_tbl ?_ | with_reducible refine y_and ?_ | with_reducible refine y_or ?_ | with_reducible refine y_not ?_ | with_reducible refine y_andV ?_ | with_reducible refine y_notV ?_ | with_reducible refine y_nil ?_ | with_reducible refine y_cons ?_ | with_reducible refine y_tup ?_ | with_reducible refine y_lst ?_ | with_reducible refine y_val ?_ | with_reducible refine y_loc ?_ | with_reducible refine y_dval ?_ | with_reducible refine y_dloc ?_ | with_reducible refine y_ice ?_ | with_reducible refine y_oNone ?_ | with_reducible refine y_oSome ?_ | with_reducible refine y_sl ?_ | with_reducible refine y_A ?_ | with_reducible refine y_call ?_ | with_reducible refine y_M ?_ | with_reducible refine y_aComp ?_ | with_reducible refine y_rng1 ?_ | with_reducible refine y_over ?_ | with_reducible refine y_addI ?_ | with_reducible refine y_subI ?_ | with_reducible refine y_ltI ?_ | with_reducible refine y_leI ?_ | with_reducible refine y_gtI ?_ | with_reducible refine y_geI ?_ | with_reducible refine y_eqI ?_ | with_reducible refine y_neI ?_ | with_reducible refine y_eqB ?_ | with_reducible refine y_neB ?_ | with_reducible refine y_eqS ?_ | with_reducible refine y_neS ?_ | with_reducible refine y_isN ?_ | with_reducible refine y_isnN ?_ | with_reducible refine y_wget ?_ | with_reducible refine And.intro (len_ok (by with_unfolding_all exact rfl)) ?_))
    with_reducible refine y_mulI ?_ ?_
    · exact mul_ok (a := 40) (b := 40) (natAbs_lt c0 (by omega)) (by decide) (by decide)
    (repeat (first | with_reducible refine w_seq ?_ | with_reducible refine w_set ?_ | with_reducible refine w_expr ?_ | with_reducible refine w_ret ?_ | with_reducible refine w_retN ?_ | with_reducible refine w_store ?_ | with_reducible refine w_nop ?_ | with_reducible refine w_for ?_ | with_reducible refine w_asg ?_ | with_reducible refine w_ct ?_ | with_reducible refine w_brk ?_ | with_reducible refine y_f2 ?_ | with_reducible refine y_C ?_ | with_reducible refine y_var (by with_unfolding_all exact rfl) ?_ | with_reducible refine y_f1 ?_ | with_reducible refine y_B ?_ | with_reducible refine y_unB ?_ | with_reducible refine y_ch ?_ | with_reducible refine y_tru ?_ | with_reducible refine y_tbl ?_ | with_reducible refine y_and ?_ | with_reducible refine y_or ?_ | with_reducible refine y_not ?_ | with_reducible refine y_andV ?_ | with_reducible refine y_notV ?_ | with_reducible refine y_nil ?_ | with_reducible refine y_cons ?_ | with_reducible refine y_tup ?_ | with_reducible refine y_lst ?_ | with_reducible refine y_val ?_ | with_reducible refine y_loc ?_ | with_reducible refine y_dval ?_ | with_reducible refine y_dloc ?_ | with_reducible refine y_ice ?_ | with_reducible refine y_oNone ?_ | with_reducible refine y_oSome ?_ | with_reducible refine y_sl ?_ | with_reducible refine y_A ?_ | with_reducible refine y_call ?_ | with_reducible refine y_M ?_ | with_reducible refine y_aComp ?_ | with_reducible refine y_rng1 ?_ | with_reducible refine y_over ?_ | with_reducible refine y_addI ?_ | with_reducible refine y_subI ?_ | with_reducible refine y_ltI ?_ | with_reducible refine y_leI ?_ | with_reducible refine y_gtI ?_ | with_reducible refine y_geI ?_ | with_reducible refine y_eqI ?_ | with_reducible refine y_neI ?_ | with_reducible refine y_eqB ?_ | with_reducible refine y_neB ?_ | with_reducible refine y_eqS ?_ | with_reducible refine y_neS ?_ | with_reducible refine y_isN ?_ | with_reducible refine y_isnN ?_ | with_reducible refine y_wget ?_ | with_reducible refine And.intro (len_ok (by with_unfolding_all exact rfl)) ?_))
    with_reducible refine y_mulI ?_ ?_
    · exact mul_ok (a := 40) (b := 101) (by decide) (natAbs_lt hs0 (by omega)) (by decide)
    (repeat (first | with_reducible refine w_seq ?_ | with_reducible refine w_set ?_ | with_reducible refine w_expr ?_ | with_reducible refine w_ret ?_ | with_reducible refine w_retN ?_ | with_reducible refine w_store ?_ | with_reducible refine w_nop ?_ | with_reducible refine w_for ?_ | with_reducible refine w_asg ?_ | with_reducible refine w_ct ?_ | with_reducible refine w_brk ?_ | with_reducible refine y_f2 ?_ | with_reducible refine y_C ?_ | with_reducible refine y_var (by with_unfolding_all exact rfl) ?_ | with_reducible refine y_f1 ?_ | with_reducible refine y_B ?_ | with_reducible refine y_unB ?_ | with_reducible refine y_ch ?_ | with_reducible refine y_tru ?_ | with_reducible refine y_tbl ?_ | with_reducible refine y_and ?_ | with_reducible refine y_or ?_ | with_reducible refine y_not ?_ | with_reducible refine y_andV ?_ | with_reducible refine y_notV ?_ | with_reducible refine y_nil ?_ | with_reducible refine y_cons ?_ | with_reducible refine y_tup ?_ | with_reducible refine y_lst ?_ | with_reducible refine y_val ?_ | with_reducible refine y_loc ?_ | with_reducible refine y_dval ?_ | with_reducible refine y_dloc ?_ | with_reducible refine y_ice ?_ | with_reducible refine y_oNone ?_ | with_reducible refine y_oSome ?_ | with_reducible refine y_sl ?_ | with_reducible refine y_A ?_ | with_reducible refine y_call ?_ | with_reducible refine y_M ?_ | with_reducible refine y_aComp ?_ | with_reducible refine y_rng1 ?_ | with_reducible refine y_over ?_ | with_reducible refine y_addI ?_ | with_reducible refine y_subI ?_ | with_reducible refine y_ltI ?_ | with_reducible refine y_leI ?_ | with_reducible refine y_gtI ?_ | with_reducible refine y_geI ?_ | with_reducible refine y_eqI ?_ | with_reducible refine y_neI ?_ | with_reducible refine y_eqB ?_ | with_reducible refine y_neB ?_ | with_reducible refine y_eqS ?_ | with_reducible refine y_neS ?_ | with_reducible refine y_isN ?_ | with_reducible refine y_isnN ?_ | with_reducible refine y_wget ?_ | with_reducible refine And.intro (len_ok (by with_unfolding_all exact rfl)) ?_))
    with_reducible refine y_mulI ?_ ?_
    · exact mul_ok (a := 150) (b := 101) (natAbs_lt (by omega) (by omega)) (natAbs_lt hs0 (by omega)) (by decide)
    (repeat (first | with_reducible refine w_seq ?_ | with_reducible refine w_set ?_ | with_reducible refine w_expr ?_ | with_reducible refine w_ret ?_ | with_reducible refine w_retN ?_ | with_reducible refine w_store ?_ | with_reducible refine w_nop ?_ | with_reducible refine w_for ?_ | with_reducible refine w_asg ?_ | with_reducible refine w_ct ?_ | with_reducible refine w_brk ?_ | with_reducible refine y_f2 ?_ | with_reducible refine y_C ?_ | with_reducible refine y_var (by with_unfolding_all exact rfl) ?_ | with_reducible refine y_f1 ?_ | with_reducible refine y_B ?_ | with_reducible refine y_unB ?_ | with_reducible refine y_ch ?_ | with_reducible refine y_tru ?_ | with_reducible refine y_tbl ?_ | with_reducible refine y_and ?_ | with_reducible refine y_or ?_ | with_reducible refine y_not ?_ | with_reducible refine y_andV ?_ | with_reducible refine y_notV ?_ | with_reducible refine y_nil ?_ | with_reducible refine y_cons ?_ | with_reducible refine y_tup ?_ | with_reducible refine y_lst ?_ | with_reducible refine y_val ?_ | with_reducible refine y_loc ?_ | with_reducible refine y_dval ?_ | with_reducible refine y_dloc ?_ | with_reducible refine y_ice ?_ | with_reducible refine y_oNone ?_ | with_reducible refine y_oSome ?_ | with_reducible refine y_sl ?_ | with_reducible refine y_A ?_ | with_reducible refine y_call ?_ | with_reducible refine y_M ?_ | with_reducible refine y_aComp ?_ | with_reducible refine y_rng1 ?_ | with_reducible refine y_over ?_ | with_reducible refine y_addI ?_ | with_reducible refine y_subI ?_ | with_reducible refine y_ltI ?_ | with_reducible refine y_leI ?_ | with_reducible refine y_gtI ?_ | with_reducible refine y_geI ?_ | with_reducible refine y_eqI ?_ | with_reducible refine y_neI ?_ | with_reducible refine y_eqB ?_ | with_reducible refine y_neB ?_ | with_reducible refine y_eqS ?_ | with_reducible refine y_neS ?_ | with_reducible refine y_isN ?_ | with_reducible refine y_isnN ?_ | with_reducible refine y_wget ?_ | with_reducible refine And.intro (len_ok (by with_unfolding_all exact rfl)) ?_))
    with_reducible refine y_mulI ?_ ?_
    · exact mul_ok (a := 40) (b := 101) (by decide) (natAbs_lt hs0 (by omega)) (by decide)
    (repeat (first | with_reducible refine w_seq ?_ | with_reducible refine w_set ?_ | with_reducible refine w_expr ?_ | with_reducible refine w_ret ?_ | with_reducible refine w_retN ?_ | with_reducible refine w_store ?_ | with_reducible refine w_nop ?_ | with_reducible refine w_for ?_ | with_reducible refine w_asg ?_ | with_reducible refine w_ct ?_ | with_reducible refine w_brk ?_ | with_reducible refine y_f2 ?_ | with_reducible refine y_C ?_ | with_reducible refine y_var (by with_unfolding_all exact rfl) ?_ | with_reducible refine y_f1 ?_ | with_reducible refine y_B ?_ | with_reducible refine y_unB ?_ | with_reducible refine y_ch ?_ | with_reducible refine y_tru ?_ | with_reducible refine y_tbl ?_ | with_reducible refine y_and ?_ | with_reducible refine y_or ?_ | with_reducible refine y_not ?_ | with_reducible refine y_andV ?_ | with_reducible refine y_notV ?_ | with_reducible refine y_nil ?_ | with_reducible refine y_cons ?_ | with_reducible refine y_tup ?_ | with_reducible refine y_lst ?_ | with_reducible refine y_val ?_ | with_reducible refine y_loc ?_ | with_reducible refine y_dval ?_ | with_reducible refine y_dloc ?_ | with_reducible refine y_ice ?_ | with_reducible refine y_oNone ?_ | with_reducible refine y_oSome ?_ | with_reducible refine y_sl ?_ | with_reducible refine y_A ?_ | with_reducible refine y_call ?_ | with_reducible refine y_M ?_ | with_reducible refine y_aComp ?_ | with_reducible refine y_rng1 ?_ | with_reducible refine y_over ?_ | with_reducible refine y_addI ?_ | with_reducible refine y_subI ?_ | with_reducible refine y_ltI ?_ | with_reducible refine y_leI ?_ | with_reducible refine y_gtI ?_ | with_reducible refine y_geI ?_ | with_reducible refine y_eqI ?_ | with_reducible refine y_neI ?_ | with_reducible refine y_eqB ?_ | with_reducible refine y_neB ?_ | with_reducible refine y_eqS ?_ | with_reducible refine y_neS ?_ | with_reducible refine y_isN ?_ | with_reducible refine y_isnN ?_ | with_reducible refine y_wget ?_ | with_reducible refine And.intro (len_ok (by with_unfolding_all exact rfl)) ?_))
    refine y_modI (by omega) ?_
    generalize (cell % p * 48271 + 7919 * sp * sp + 69621 * sp + 1) = s1
    have s0 := Int.emod_nonneg s1 (by omega : p ≠ 0)
    have s2 := Int.emod_lt_of_pos s1 (by omega : 0 < p)
    generalize s1 % p = s1 at s0 s2 ⊢
    (repeat (first | with_reducible refine w_seq ?_ | with_reducible refine w_set ?_ | with_reducible refine w_expr ?_ | with_reducible refine w_ret ?_ | with_reducible refine w_retN ?_ | with_reducible refine w_store ?_ | with_reducible refine w_nop ?_ | with_reducible refine w_for ?_ | with_reducible refine w_asg ?_ | with_reducible refine w_ct ?_ | with_reducible refine w_brk ?_ | with_reducible refine y_f2 ?_ | with_reducible refine y_C ?_ | with_reducible refine y_var (by with_unfolding_all exact rfl) ?_ | with_reducible refine y_f1 ?_ | with_reducible refine y_B ?_ | with_reducible refine y_unB ?_ | with_reducible refine y_ch ?_ | with_reducible refine y_tru ?_ | with_reducible refine y_tbl ?_ | with_reducible refine y_and ?_ | with_reducible refine y_or ?_ | with_reducible refine y_not ?_ | with_reducible refine y_andV ?_ | with_reducible refine y_notV ?_ | with_reducible refine y_nil ?_ | with_reducible refine y_cons ?_ | with_reducible refine y_tup ?_ | with_reducible refine y_lst ?_ | with_reducible refine y_val ?_ | with_reducible refine y_loc ?_ | with_reducible refine y_dval ?_ | with_reducible refine y_dloc ?_ | with_reducible refine y_ice ?_ | with_reducible refine y_oNone ?_ | with_reducible refine y_oSome ?_ | with_reducible refine y_sl ?_ | with_reducible refine y_A ?_ | with_reducible refine y_call ?_ | with_reducible refine y_M ?_ | with_reducible refine y_aComp ?_ | with_reducible refine y_rng1 ?_ | with_reducible refine y_over ?_ | with_reducible refine y_addI ?_ | with_reducible refine y_subI ?_ | with_reducible refine y_ltI ?_ | with_reducible refine y_leI ?_ | with_reducible refine y_gtI ?_ | with_reducible refine y_geI ?_ | with_reducible refine y_eqI ?_ | with_reducible refine y_neI ?_ | with_reducible refine y_eqB ?_ | with_reducible refine y_neB ?_ | with_reducible refine y_eqS ?_ | with_reducible refine y_neS ?_ | with_reducible refine y_isN ?_ | with_reducible refine y_isnN ?_ | with_reducible refine y_wget ?_ | with_reducible refine And.intro (len_ok (by with_unfolding_all exact rfl)) ?_))
    with_reducible refine y_mulI ?_ ?_
    · exact mul_ok (a := 40) (b := 41) (natAbs_lt s0 (by omega)) (natAbs_lt (by omega) (by omega)) (by decide)
    (repeat (first | with_reducible refine w_seq ?_ | with_reducible refine w_set ?_ | with_reducible refine w_expr ?_ | with_reducible refine w_ret ?_ | with_reducible refine w_retN ?_ | with_reducible refine w_store ?_ | with_reducible refine w_nop ?_ | with_reducible refine w_for ?_ | with_reducible refine w_asg ?_ | with_reducible refine w_ct ?_ | with_reducible refine w_brk ?_ | with_reducible refine y_f2 ?_ | with_reducible refine y_C ?_ | with_reducible refine y_var (by with_unfolding_all exact rfl) ?_ | with_reducible refine y_f1 ?_ | with_reducible refine y_B ?_ | with_reducible refine y_unB ?_ | with_reducible refine y_ch ?_ | with_reducible refine y_tru ?_ | with_reducible refine y_tbl ?_ | with_reducible refine y_and ?_ | with_reducible refine y_or ?_ | with_reducible refine y_not ?_ | with_reducible refine y_andV ?_ | with_reducible refine y_notV ?_ | with_reducible refine y_nil ?_ | with_reducible refine y_cons ?_ | with_reducible refine y_tup ?_ | with_reducible refine y_lst ?_ | with_reducible refine y_val ?_ | with_reducible refine y_loc ?_ | with_reducible refine y_dval ?_ | with_reducible refine y_dloc ?_ | with_reducible refine y_ice ?_ | with_reducible refine y_oNone ?_ | with_reducible refine y_oSome ?_ | with_reducible refine y_sl ?_ | with_reducible refine y_A ?_ | with_reducible refine y_call ?_ | with_reducible refine y_M ?_ | with_reducible refine y_aComp ?_ | with_reducible refine y_rng1 ?_ | with_reducible refine y_over ?_ | with_reducible refine y_addI ?_ | with_reducible refine y_subI ?_ | with_reducible refine y_ltI ?_ | with_reducible refine y_leI ?_ | with_reducible refine y_gtI ?_ | with_reducible refine y_geI ?_ | with_reducible refine y_eqI ?_ | with_reducible refine y_neI ?_ | with_reducible refine y_eqB ?_ | with_reducible refine y_neB ?_ | with_reducible refine y_eqS ?_ | with_reducible refine y_neS ?_ | with_reducible refine y_isN ?_ | with_reducible refine y_isnN ?_ | with_reducible refine y_wget ?_ | with_reducible refine And.intro (len_ok (by with_unfolding_all exact rfl)) ?_))
    refine y_modI (by decide) ?_
    refine y_ixL (Int.emod_nonneg _ (by decide)) (Int.emod_lt_of_pos _ (by decide)) fun q hq _ => ?_
    obtain ⟨q, rfl, hq0, hq1⟩ : ∃ i : Int, q = .int i ∧ 2147483543 ≤ i ∧ i ≤ 2147483647 := primes_in hq
    refine y_modI (by omega) ?_
    generalize s1 * (s1 + 16807) = s3
    have s4 := Int.emod_nonneg s3 (by omega : q ≠ 0)
    have s5 := Int.emod_lt_of_pos s3 (by omega : 0 < q)
    generalize s3 % q = s3 at s4 s5 ⊢
    (repeat (first | with_reducible refine w_seq ?_ | with_reducible refine w_set ?_ | with_reducible refine w_expr ?_ | with_reducible refine w_ret ?_ | with_reducible refine w_retN ?_ | with_reducible refine w_store ?_ | with_reducible refine w_nop ?_ | with_reducible refine w_for ?_ | with_reducible refine w_asg ?_ | with_reducible refine w_ct ?_ | with_reducible refine w_brk ?_ | with_reducible refine y_f2 ?_ | with_reducible refine y_C ?_ | with_reducible refine y_var (by with_unfolding_all exact rfl) ?_ | with_reducible refine y_f1 ?_ | with_reducible refine y_B ?_ | with_reducible refine y_unB ?_ | with_reducible refine y_ch ?_ | with_reducible refine y_tru ?_ | with_reducible refine y_tbl ?_ | with_reducible refine y_and ?_ | with_reducible refine y_or ?_ | with_reducible refine y_not ?_ | with_reducible refine y_andV ?_ | with_reducible refine y_notV ?_ | with_reducible refine y_nil ?_ | with_reducible refine y_cons ?_ | with_reducible refine y_tup ?_ | with_reducible refine y_lst ?_ | with_reducible refine y_val ?_ | with_reducible refine y_loc ?_ | with_reducible refine y_dval ?_ | with_reducible refine y_dloc ?_ | with_reducible refine y_ice ?_ | with_reducible refine y_oNone ?_ | with_reducible refine y_oSome ?_ | with_reducible refine y_sl ?_ | with_reducible refine y_A ?_ | with_reducible refine y_call ?_ | with_reducible refine y_M ?_ | with_reducible refine y_aComp ?_ | with_reducible refine y_rng1 ?_ | with_reducible refine y_over ?_ | with_reducible refine y_addI ?_ | with_reducible refine y_subI ?_ | with_reducible refine y_ltI ?_ | with_reducible refine y_leI ?_ | with_reducible refine y_gtI ?_ | with_reducible refine y_geI ?_ | with_reducible refine y_eqI ?_ | with_reducible refine y_neI ?_ | with_reducible refine y_eqB ?_ | with_reducible refine y_neB ?_ | with_reducible refine y_eqS ?_ | with_reducible refine y_neS ?_ | with_reducible refine y_isN ?_ | with_reducible refine y_isnN ?_ | with_reducible refine y_wget ?_ | with_reducible refine And.intro (len_ok (by with_unfolding_all exact rfl)) ?_))
    with_reducible refine y_mulI ?_ ?_
    · exact mul_ok (a := 40) (b := 41) (natAbs_lt s4 (by omega)) (natAbs_lt s4 (by omega)) (by decide)
    (repeat (first | with_reducible refine w_seq ?_ | with_reducible refine w_set ?_ | with_reducible refine w_expr ?_ | with_reducible refine w_ret ?_ | with_reducible refine w_retN ?_ | with_reducible refine w_store ?_ | with_reducible refine w_nop ?_ | with_reducible refine w_for ?_ | with_reducible refine w_asg ?_ | with_reducible refine w_ct ?_ | with_reducible refine w_brk ?_ | with_reducible refine y_f2 ?_ | with_reducible refine y_C ?_ | with_reducible refine y_var (by with_unfolding_all exact rfl) ?_ | with_reducible refine y_f1 ?_ | with_reducible refine y_B ?_ | with_reducible refine y_unB ?_ | with_reducible refine y_ch ?_ | with_reducible refine y_tru ?_ | with_reducible refine y_tbl ?_ | with_reducible refine y_and ?_ | with_reducible refine y_or ?_ | with_reducible refine y_not ?_ | with_reducible refine y_andV ?_ | with_reducible refine y_notV ?_ | with_reducible refine y_nil ?_ | with_reducible refine y_cons ?_ | with_reducible refine y_tup ?_ | with_reducible refine y_lst ?_ | with_reducible refine y_val ?_ | with_reducible refine y_loc ?_ | with_reducible refine y_dval ?_ | with_reducible refine y_dloc ?_ | with_reducible refine y_ice ?_ | with_reducible refine y_oNone ?_ | with_reducible refine y_oSome ?_ | with_reducible refine y_sl ?_ | with_reducible refine y_A ?_ | with_reducible refine y_call ?_ | with_reducible refine y_M ?_ | with_reducible refine y_aComp ?_ | with_reducible refine y_rng1 ?_ | with_reducible refine y_over ?_ | with_reducible refine y_addI ?_ | with_reducible refine y_subI ?_ | with_reducible refine y_ltI ?_ | with_reducible refine y_leI ?_ | with_reducible refine y_gtI ?_ | with_reducible refine y_geI ?_ | with_reducible refine y_eqI ?_ | with_reducible refine y_neI ?_ | with_reducible refine y_eqB ?_ | with_reducible refine y_neB ?_ | with_reducible refine y_eqS ?_ | with_reducible refine y_neS ?_ | with_reducible refine y_isN ?_ | with_reducible refine y_isnN ?_ | with_reducible refine y_wget ?_ | with_reducible refine And.intro (len_ok (by with_unfolding_all exact rfl)) ?_))
    refine y_modI (by omega) ?_
    (repeat (first | with_reducible refine w_seq ?_ | with_reducible refine w_set ?_ | with_reducible refine w_expr ?_ | with_reducible refine w_ret ?_ | with_reducible refine w_retN ?_ | with_reducible refine w_store ?_ | with_reducible refine w_nop ?_ | with_reducible refine w_for ?_ | with_reducible refine w_asg ?_ | with_reducible refine w_ct ?_ | with_reducible refine w_brk ?_ | with_reducible refine y_f2 ?_ | with_reducible refine y_C ?_ | with_reducible refine y_var (by with_unfolding_all exact rfl) ?_ | with_reducible refine y_f1 ?_ | with_reducible refine y_B ?_ | with_reducible refine y_unB ?_ | with_reducible refine y_ch ?_ | with_reducible refine y_tru ?_ | with_reducible refine y_tbl ?_ | with_reducible refine y_and ?_ | with_reducible refine y_or ?_ | with_reducible refine y_not ?_ | with_reducible refine y_andV ?_ | with_reducible refine y_notV ?_ | with_reducible refine y_nil ?_ | with_reducible refine y_cons ?_ | with_reducible refine y_tup ?_ | with_reducible refine y_lst ?_ | with_reducible refine y_val ?_ | with_reducible refine y_loc ?_ | with_reducible refine y_dval ?_ | with_reducible refine y_dloc ?_ | with_reducible refine y_ice ?_ | with_reducible refine y_oNone ?_ | with_reducible refine y_oSome ?_ | with_reducible refine y_sl ?_ | with_reducible refine y_A ?_ | with_reducible refine y_call ?_ | with_reducible refine y_M ?_ | with_reducible refine y_aComp ?_ | with_reducible refine y_rng1 ?_ | with_reducible refine y_over ?_ | with_reducible refine y_addI ?_ | with_reducible refine y_subI ?_ | with_reducible refine y_ltI ?_ | with_reducible refine y_leI ?_ | with_reducible refine y_gtI ?_ | with_reducible refine y_geI ?_ | with_reducible refine y_eqI ?_ | with_reducible refine y_neI ?_ | with_reducible refine y_eqB ?_ | with_reducible refine y_neB ?_ | with_reducible refine y_eqS ?_ | with_reducible refine y_neS ?_ | with_reducible refine y_isN ?_ | with_reducible refine y_isnN ?_ | with_reducible refine y_wget ?_ | with_reducible refine And.intro (len_ok (by with_unfolding_all exact rfl)) ?_))
    refine y_fdivI (by decide) (by decide) ?_
    generalize s3 * s3 % p / 64 = s6
    (repeat (first | with_reducible refine w_seq ?_ | with_reducible refine w_set ?_ | with_reducible refine w_expr ?_ | with_reducible refine w_ret ?_ | with_reducible refine w_retN ?_ | with_reducible refine w_store ?_ | with_reducible refine w_nop ?_ | with_reducible refine w_for ?_ | with_reducible refine w_asg ?_ | with_reducible refine w_ct ?_ | with_reducible refine w_brk ?_ | with_reducible refine y_f2 ?_ | with_reducible refine y_C ?_ | with_reducible refine y_var (by with_unfolding_all exact rfl) ?_ | with_reducible refine y_f1 ?_ | with_reducible refine y_B ?_ | with_reducible refine y_unB ?_ | with_reducible refine y_ch ?_ | with_reducible refine y_tru ?_ | with_reducible refine y_tbl ?_ | with_reducible refine y_and ?_ | with_reducible refine y_or ?_ | with_reducible refine y_not ?_ | with_reducible refine y_andV ?_ | with_reducible refine y_notV ?_ | with_reducible refine y_nil ?_ | with_reducible refine y_cons ?_ | with_reducible refine y_tup ?_ | with_reducible refine y_lst ?_ | with_reducible refine y_val ?_ | with_reducible refine y_loc ?_ | with_reducible refine y_dval ?_ | with_reducible refine y_dloc ?_ | with_reducible refine y_ice ?_ | with_reducible refine y_oNone ?_ | with_reducible refine y_oSome ?_ | with_reducible refine y_sl ?_ | with_reducible refine y_A ?_ | with_reducible refine y_call ?_ | with_reducible refine y_M ?_ | with_reducible refine y_aComp ?_ | with_reducible refine y_rng1 ?_ | with_reducible refine y_over ?_ | with_reducible refine y_addI ?_ | with_reducible refine y_subI ?_ | with_reducible refine y_ltI ?_ | with_reducible refine y_leI ?_ | with_reducible refine y_gtI ?_ | with_reducible refine y_geI ?_ | with_reducible refine y_eqI ?_ | with_reducible refine y_neI ?_ | with_reducible refine y_eqB ?_ | with_reducible refine y_neB ?_ | with_reducible refine y_eqS ?_ | with_reducible refine y_neS ?_ | with_reducible refine y_isN ?_ | with_reducible refine y_isnN ?_ | with_reducible refine y_wget ?_ | with_reducible refine And.intro (len_ok (by with_unfolding_all exact rfl)) ?_))
    refine w_if ?_
    (repeat (first | with_reducible refine w_seq ?_ | with_reducible refine w_set ?_ | with_reducible refine w_expr ?_ | with_reducible refine w_ret ?_ | with_reducible refine w_retN ?_ | with_reducible refine w_store ?_ | with_reducible refine w_nop ?_ | with_reducible refine w_for ?_ | with_reducible refine w_asg ?_ | with_reducible refine w_ct ?_ | with_reducible refine w_brk ?_ | with_reducible refine y_f2 ?_ | with_reducible refine y_C ?_ | with_reducible refine y_var (by with_unfolding_all exact rfl) ?_ | with_reducible refine y_f1 ?_ | with_reducible refine y_B ?_ | with_reducible refine y_unB ?_ | with_reducible refine y_ch ?_ | with_reducible refine y_tru ?_ | with_reducible refine y_tbl ?_ | with_reducible refine y_and ?_ | with_reducible refine y_or ?_ | with_reducible refine y_not ?_ | with_reducible refine y_andV ?_ | with_reducible refine y_notV ?_ | with_reducible refine y_nil ?_ | with_reducible refine y_cons ?_ | with_reducible refine y_tup ?_ | with_reducible refine y_lst ?_ | with_reducible refine y_val ?_ | with_reducible refine y_loc ?_ | with_reducible refine y_dval ?_ | with_reducible refine y_dloc ?_ | with_reducible refine y_ice ?_ | with_reducible refine y_oNone ?_ | with_reducible refine y_oSome ?_ | with_reducible refine y_sl ?_ | with_reducible refine y_A ?_ | with_reducible refine y_call ?_ | with_reducible refine y_M ?_ | with_reducible refine y_aComp ?_ | with_reducible refine y_rng1 ?_ | with_reducible refine y_over ?_ | with_reducible refine y_addI ?_ | with_reducible refine y_subI ?_ | with_reducible refine y_ltI ?_ | with_reducible refine y_leI ?_ | with_reducible refine y_gtI ?_ | with_reducible refine y_geI ?_ | with_reducible refine y_eqI ?_ | with_reducible refine y_neI ?_ | with_reducible refine y_eqB ?_ | with_reducible refine y_neB ?_ | with_reducible refine y_eqS ?_ | with_reducible refine y_neS ?_ | with_reducible refine y_isN ?_ | with_reducible refine y_isnN ?_ | with_reducible refine y_wget ?_ | with_reducible refine And.intro (len_ok (by with_unfolding_all exact rfl)) ?_))
    refine y_powI (by decide) (by decide) (by decide) ?_
    rw [pow6]
    (repeat (first | with_reducible refine w_seq ?_ | with_reducible refine w_set ?_ | with_reducible refine w_expr ?_ | with_reducible refine w_ret ?_ | with_reducible refine w_retN ?_ | with_reducible refine w_store ?_ | with_reducible refine w_nop ?_ | with_reducible refine w_for ?_ | with_reducible refine w_asg ?_ | with_reducible refine w_ct ?_ | with_reducible refine w_brk ?_ | with_reducible refine y_f2 ?_ | with_reducible refine y_C ?_ | with_reducible refine y_var (by with_unfolding_all exact rfl) ?_ | with_reducible refine y_f1 ?_ | with_reducible refine y_B ?_ | with_reducible refine y_unB ?_ | with_reducible refine y_ch ?_ | with_reducible refine y_tru ?_ | with_reducible refine y_tbl ?_ | with_reducible refine y_and ?_ | with_reducible refine y_or ?_ | with_reducible refine y_not ?_ | with_reducible refine y_andV ?_ | with_reducible refine y_notV ?_ | with_reducible refine y_nil ?_ | with_reducible refine y_cons ?_ | with_reducible refine y_tup ?_ | with_reducible refine y_lst ?_ | with_reducible refine y_val ?_ | with_reducible refine y_loc ?_ | with_reducible refine y_dval ?_ | with_reducible refine y_dloc ?_ | with_reducible refine y_ice ?_ | with_reducible refine y_oNone ?_ | with_reducible refine y_oSome ?_ | with_reducible refine y_sl ?_ | with_reducible refine y_A ?_ | with_reducible refine y_call ?_ | with_reducible refine y_M ?_ | with_reducible refine y_aComp ?_ | with_reducible refine y_rng1 ?_ | with_reducible refine y_over ?_ | with_reducible refine y_addI ?_ | with_reducible refine y_subI ?_ | with_reducible refine y_ltI ?_ | with_reducible refine y_leI ?_ | with_reducible refine y_gtI ?_ | with_reducible refine y_geI ?_ | with_reducible refine y_eqI ?_ | with_reducible refine y_neI ?_ | with_reducible refine y_eqB ?_ | with_reducible refine y_neB ?_ | with_reducible refine y_eqS ?_ | with_reducible refine y_neS ?_ | with_reducible refine y_isN ?_ | with_reducible refine y_isnN ?_ | with_reducible refine y_wget ?_ | with_reducible refine And.intro (len_ok (by with_unfolding_all exact rfl)) ?_))
    refine ite_b (fun c2 => ?_) (fun c2 => ?_)
    · have c2 := of_decide_eq_true c2
      (repeat (first | with_reducible refine w_seq ?_ | with_reducible refine w_set ?_ | with_reducible refine w_expr ?_ | with_reducible refine w_ret ?_ | with_reducible refine w_retN ?_ | with_reducible refine w_store ?_ | with_reducible refine w_nop ?_ | with_reducible refine w_for ?_ | with_reducible refine w_asg ?_ | with_reducible refine w_ct ?_ | with_reducible refine w_brk ?_ | with_reducible refine y_f2 ?_ | with_reducible refine y_C ?_ | with_reducible refine y_var (by with_unfolding_all exact rfl) ?_ | with_reducible refine y_f1 ?_ | with_reducible refine y_B ?_ | with_reducible refine y_unB ?_ | with_reducible refine y_ch ?_ | with_reducible refine y_tru ?_ | with_reducible refine y_tbl ?_ | with_reducible refine y_and ?_ | with_reducible refine y_or ?_ | with_reducible refine y_not ?_ | with_reducible refine y_andV ?_ | with_reducible refine y_notV ?_ | with_reducible refine y_nil ?_ | with_reducible refine y_cons ?_ | with_reducible refine y_tup ?_ | with_reducible refine y_lst ?_ | with_reducible refine y_val ?_ | with_reducible refine y_loc ?_ | with_reducible refine y_dval ?_ | with_reducible refine y_dloc ?_ | with_reducible refine y_ice ?_ | with_reducible refine y_oNone ?_ | with_reducible refine y_oSome ?_ | with_reducible refine y_sl ?_ | with_reducible refine y_A ?_ | with_reducible refine y_call ?_ | with_reducible refine y_M ?_ | with_reducible refine y_aComp ?_ | with_reducible refine y_rng1 ?_ | with_reducible refine y_over ?_ | with_reducible refine y_addI ?_ | with_reducible refine y_subI ?_ | with_reducible refine y_ltI ?_ | with_reducible refine y_leI ?_ | with_reducible refine y_gtI ?_ | with_reducible refine y_geI ?_ | with_reducible refine y_eqI ?_ | with_reducible refine y_neI ?_ | with_reducible refine y_eqB ?_ | with_reducible refine y_neB ?_ | with_reducible refine y_eqS ?_ | with_reducible refine y_neS ?_ | with_reducible refine y_isN ?_ | with_reducible refine y_isnN ?_ | with_reducible refine y_wget ?_ | with_reducible refine And.intro (len_ok (by with_unfolding_all exact rfl)) ?_))
      refine y_powI (by decide) (by decide) (by decide) ?_
      rw [pow6]
      (repeat (first | with_reducible refine w_seq ?_ | with_reducible refine w_set ?_ | with_reducible refine w_expr ?_ | with_reducible refine w_ret ?_ | with_reducible refine w_retN ?_ | with_reducible refine w_store ?_ | with_reducible refine w_nop ?_ | with_reducible refine w_for ?_ | with_reducible refine w_asg ?_ | with_reducible refine w_ct ?_ | with_reducible refine w_brk ?_ | with_reducible refine y_f2 ?_ | with_reducible refine y_C ?_ | with_reducible refine y_var (by with_unfolding_all exact rfl) ?_ | with_reducible refine y_f1 ?_ | with_reducible refine y_B ?_ | with_reducible refine y_unB ?_ | with_reducible refine y_ch ?_ | with_reducible refine y_tru ?_ | with_reducible refine y_tbl ?_ | with_reducible refine y_and ?_ | with_reducible refine y_or ?_ | with_reducible refine y_not ?_ | with_reducible refine y_andV ?_ | with_reducible refine y_notV ?_ | with_reducible refine y_nil ?_ | with_reducible refine y_cons ?_ | with_reducible refine y_tup ?_ | with_reducible refine y_lst ?_ | with_reducible refine y_val ?_ | with_reducible refine y_loc ?_ | with_reducible refine y_dval ?_ | with_reducible refine y_dloc ?_ | with_reducible refine y_ice ?_ | with_reducible refine y_oNone ?_ | with_reducible refine y_oSome ?_ | with_reducible refine y_sl ?_ | with_reducible refine y_A ?_ | with_reducible refine y_call ?_ | with_reducible refine y_M ?_ | with_reducible refine y_aComp ?_ | with_reducible refine y_rng1 ?_ | with_reducible refine y_over ?_ | with_reducible refine y_addI ?_ | with_reducible refine y_subI ?_ | with_reducible refine y_ltI ?_ | with_reducible refine y_leI ?_ | with_reducible refine y_gtI ?_ | with_reducible refine y_geI ?_ | with_reducible refine y_eqI ?_ | with_reducible refine y_neI ?_ | with_reducible refine y_eqB ?_ | with_reducible refine y_neB ?_ | with_reducible refine y_eqS ?_ | with_reducible refine y_neS ?_ | with_reducible refine y_isN ?_ | with_reducible refine y_isnN ?_ | with_reducible refine y_wget ?_ | with_reducible refine And.intro (len_ok (by with_unfolding_all exact rfl)) ?_))
      refine y_modI (by decide) ?_
      (repeat (first | with_reducible refine w_seq ?_ | with_reducible refine w_set ?_ | with_reducible refine w_expr ?_ | with_reducible refine w_ret ?_ | with_reducible refine w_retN ?_ | with_reducible refine w_store ?_ | with_reducible refine w_nop ?_ | with_reducible refine w_for ?_ | with_reducible refine w_asg ?_ | with_reducible refine w_ct ?_ | with_reducible refine w_brk ?_ | with_reducible refine y_f2 ?_ | with_reducible refine y_C ?_ | with_reducible refine y_var (by with_unfolding_all exact rfl) ?_ | with_reducible refine y_f1 ?_ | with_reducible refine y_B ?_ | with_reducible refine y_unB ?_ | with_reducible refine y_ch ?_ | with_reducible refine y_tru ?_ | with_reducible refine y_tbl ?_ | with_reducible refine y_and ?_ | with_reducible refine y_or ?_ | with_reducible refine y_not ?_ | with_reducible refine y_andV ?_ | with_reducible refine y_notV ?_ | with_reducible refine y_nil ?_ | with_reducible refine y_cons ?_ | with_reducible refine y_tup ?_ | with_reducible refine y_lst ?_ | with_reducible refine y_val ?_ | with_reducible refine y_loc ?_ | with_reducible refine y_dval ?_ | with_reducible refine y_dloc ?_ | with_reducible refine y_ice ?_ | with_reducible refine y_oNone ?_ | with_reducible refine y_oSome ?_ | with_reducible refine y_sl ?_ | with_reducible refine y_A ?_ | with_reducible refine y_call ?_ | with_reducible refine y_M ?_ | with_reducible refine y_aComp ?_ | with_reducible refine y_rng1 ?_ | with_reducible refine y_over ?_ | with_reducible refine y_addI ?_ | with_reducible refine y_subI ?_ | with_reducible refine y_ltI ?_ | with_reducible refine y_leI ?_ | with_reducible refine y_gtI ?_ | with_reducible refine y_geI ?_ | with_reducible refine y_eqI ?_ | with_reducible refine y_neI ?_ | with_reducible refine y_eqB ?_ | with_reducible refine y_neB ?_ | with_reducible refine y_eqS ?_ | with_reducible refine y_neS ?_ | with_reducible refine y_isN ?_ | with_reducible refine y_isnN ?_ | with_reducible refine y_wget ?_ | with_reducible refine And.intro (len_ok (by with_unfolding_all exact rfl)) ?_))
      refine y_powI (by decide) (by decide) (by decide) ?_
      rw [pow6]
      (repeat (first | with_reducible refine w_seq ?_ | with_reducible refine w_set ?_ | with_reducible refine w_expr ?_ | with_reducible refine w_ret ?_ | with_reducible refine w_retN ?_ | with_reducible refine w_store ?_ | with_reducible refine w_nop ?_ | with_reducible refine w_for ?_ | with_reducible refine w_asg ?_ | with_reducible refine w_ct ?_ | with_reducible refine w_brk ?_ | with_reducible refine y_f2 ?_ | with_reducible refine y_C ?_ | with_reducible refine y_var (by with_unfolding_all exact rfl) ?_ | with_reducible refine y_f1 ?_ | with_reducible refine y_B ?_ | with_reducible refine y_unB ?_ | with_reducible refine y_ch ?_ | with_reducible refine y_tru ?_ | with_reducible refine y_tbl ?_ | with_reducible refine y_and ?_ | with_reducible refine y_or ?_ | with_reducible refine y_not ?_ | with_reducible refine y_andV ?_ | with_reducible refine y_notV ?_ | with_reducible refine y_nil ?_ | with_reducible refine y_cons ?_ | with_reducible refine y_tup ?_ | with_reducible refine y_lst ?_ | with_reducible refine y_val ?_ | with_reducible refine y_loc ?_ | with_reducible refine y_dval ?_ | with_reducible refine y_dloc ?_ | with_reducible refine y_ice ?_ | with_reducible refine y_oNone ?_ | with_reducible refine y_oSome ?_ | with_reducible refine y_sl ?_ | with_reducible refine y_A ?_ | with_reducible refine y_call ?_ | with_reducible refine y_M ?_ | with_reducible refine y_aComp ?_ | with_reducible refine y_rng1 ?_ | with_reducible refine y_over ?_ | with_reducible refine y_addI ?_ | with_reducible refine y_subI ?_ | with_reducible refine y_ltI ?_ | with_reducible refine y_leI ?_ | with_reducible refine y_gtI ?_ | with_reducible refine y_geI ?_ | with_reducible refine y_eqI ?_ | with_reducible refine y_neI ?_ | with_reducible refine y_eqB ?_ | with_reducible refine y_neB ?_ | with_reducible refine y_eqS ?_ | with_reducible refine y_neS ?_ | with_reducible refine y_isN ?_ | with_reducible refine y_isnN ?_ | with_reducible refine y_wget ?_ | with_reducible refine And.intro (len_ok (by with_unfolding_all exact rfl)) ?_))
      refine y_powI (by decide) (by decide) (by decide) ?_
      rw [pow6]
      (repeat (first | with_reducible refine w_seq ?_ | with_reducible refine w_set ?_ | with_reducible refine w_expr ?_ | with_reducible refine w_ret ?_ | with_reducible refine w_retN ?_ | with_reducible refine w_store ?_ | with_reducible refine w_nop ?_ | with_reducible refine w_for ?_ | with_reducible refine w_asg ?_ | with_reducible refine w_ct ?_ | with_reducible refine w_brk ?_ | with_reducible refine y_f2 ?_ | with_reducible refine y_C ?_ | with_reducible refine y_var (by with_unfolding_all exact rfl) ?_ | with_reducible refine y_f1 ?_ | with_reducible refine y_B ?_ | with_reducible refine y_unB ?_ | with_reducible refine y_ch ?_ | with_reducible refine y_tru ?_ | with_reducible refine y_tbl ?_ | with_reducible refine y_and ?_ | with_reducible refine y_or ?_ | with_reducible refine y_not ?_ | with_reducible refine y_andV ?_ | with_reducible refine y_notV ?_ | with_reducible refine y_nil ?_ | with_reducible refine y_cons ?_ | with_reducible refine y_tup ?_ | with_reducible refine y_lst ?_ | with_reducible refine y_val ?_ | with_reducible refine y_loc ?_ | with_reducible refine y_dval ?_ | with_reducible refine y_dloc ?_ | with_reducible refine y_ice ?_ | with_reducible refine y_oNone ?_ | with_reducible refine y_oSome ?_ | with_reducible refine y_sl ?_ | with_reducible refine y_A ?_ | with_reducible refine y_call ?_ | with_reducible refine y_M ?_ | with_reducible refine y_aComp ?_ | with_reducible refine y_rng1 ?_ | with_reducible refine y_over ?_ | with_reducible refine y_addI ?_ | with_reducible refine y_subI ?_ | with_reducible refine y_ltI ?_ | with_reducible refine y_leI ?_ | with_reducible refine y_gtI ?_ | with_reducible refine y_geI ?_ | with_reducible refine y_eqI ?_ | with_reducible refine y_neI ?_ | with_reducible refine y_eqB ?_ | with_reducible refine y_neB ?_ | with_reducible refine y_eqS ?_ | with_reducible refine y_neS ?_ | with_reducible refine y_isN ?_ | with_reducible refine y_isnN ?_ | with_reducible refine y_wget ?_ | with_reducible refine And.intro (len_ok (by with_unfolding_all exact rfl)) ?_))
      refine y_fdivI (by decide) (by decide) ?_
      (repeat (first | with_reducible refine w_seq ?_ | with_reducible refine w_set ?_ | with_reducible refine w_expr ?_ | with_reducible refine w_ret ?_ | with_reducible refine w_retN ?_ | with_reducible refine w_store ?_ | with_reducible refine w_nop ?_ | with_reducible refine w_for ?_ | with_reducible refine w_asg ?_ | with_reducible refine w_ct ?_ | with_reducible refine w_brk ?_ | with_reducible refine y_f2 ?_ | with_reducible refine y_C ?_ | with_reducible refine y_var (by with_unfolding_all exact rfl) ?_ | with_reducible refine y_f1 ?_ | with_reducible refine y_B ?_ | with_reducible refine y_unB ?_ | with_reducible refine y_ch ?_ | with_reducible refine y_tru ?_ | with_reducible refine y_tbl ?_ | with_reducible refine y_and ?_ | with_reducible refine y_or ?_ | with_reducible refine y_not ?_ | with_reducible refine y_andV ?_ | with_reducible refine y_notV ?_ | with_reducible refine y_nil ?_ | with_reducible refine y_cons ?_ | with_reducible refine y_tup ?_ | with_reducible refine y_lst ?_ | with_reducible refine y_val ?_ | with_reducible refine y_loc ?_ | with_reducible refine y_dval ?_ | with_reducible refine y_dloc ?_ | with_reducible refine y_ice ?_ | with_reducible refine y_oNone ?_ | with_reducible refine y_oSome ?_ | with_reducible refine y_sl ?_ | with_reducible refine y_A ?_ | with_reducible refine y_call ?_ | with_reducible refine y_M ?_ | with_reducible refine y_aComp ?_ | with_reducible refine y_rng1 ?_ | with_reducible refine y_over ?_ | with_reducible refine y_addI ?_ | with_reducible refine y_subI ?_ | with_reducible refine y_ltI ?_ | with_reducible refine y_leI ?_ | with_reducible refine y_gtI ?_ | with_reducible refine y_geI ?_ | with_reducible refine y_eqI ?_ | with_reducible refine y_neI ?_ | with_reducible refine y_eqB ?_ | with_reducible refine y_neB ?_ | with_reducible refine y_eqS ?_ | with_reducible refine y_neS ?_ | with_reducible refine y_isN ?_ | with_reducible refine y_isnN ?_ | with_reducible refine y_wget ?_ | with_reducible refine And.intro (len_ok (by with_unfolding_all exact rfl)) ?_))
      refine ⟨rfl, ?_⟩
      refine (hrec c2 S2 ⟨cs, sp + 1, lf, h2, hl, by omega, by omega, hf⟩).mono ?_
      rintro _ S3 ⟨r, rfl, r0, r1, t3, l3, f3⟩
      with_reducible refine y_mulI ?_ ?_
      · exact mul_ok (a := 40) (b := 201) (by decide) (natAbs_lt r0 (by omega)) (by decide)
      (repeat (first | with_reducible refine w_seq ?_ | with_reducible refine w_set ?_ | with_reducible refine w_expr ?_ | with_reducible refine w_ret ?_ | with_reducible refine w_retN ?_ | with_reducible refine w_store ?_ | with_reducible refine w_nop ?_ | with_reducible refine w_for ?_ | with_reducible refine w_asg ?_ | with_reducible refine w_ct ?_ | with_reducible refine w_brk ?_ | with_reducible refine y_f2 ?_ | with_reducible refine y_C ?_ | with_reducible refine y_var (by with_unfolding_all exact rfl) ?_ | with_reducible refine y_f1 ?_ | with_reducible refine y_B ?_ | with_reducible refine y_unB ?_ | with_reducible refine y_ch ?_ | with_reducible refine y_tru ?_ | with_reducible refine y_tbl ?_ | with_reducible refine y_and ?_ | with_reducible refine y_or ?_ | with_reducible refine y_not ?_ | with_reducible refine y_andV ?_ | with_reducible refine y_notV ?_ | with_reducible refine y_nil ?_ | with_reducible refine y_cons ?_ | with_reducible refine y_tup ?_ | with_reducible refine y_lst ?_ | with_reducible refine y_val ?_ | with_reducible refine y_loc ?_ | with_reducible refine y_dval ?_ | with_reducible refine y_dloc ?_ | with_reducible refine y_ice ?_ | with_reducible refine y_oNone ?_ | with_reducible refine y_oSome ?_ | with_reducible refine y_sl ?_ | with_reducible refine y_A ?_ | with_reducible refine y_call ?_ | with_reducible refine y_M ?_ | with_reducible refine y_aComp ?_ | with_reducible refine y_rng1 ?_ | with_reducible refine y_over ?_ | with_reducible refine y_addI ?_ | with_reducible refine y_subI ?_ | with_reducible refine y_ltI ?_ | with_reducible refine y_leI ?_ | with_reducible refine y_gtI ?_ | with_reducible refine y_geI ?_ | with_reducible refine y_eqI ?_ | with_reducible refine y_neI ?_ | with_reducible refine y_eqB ?_ | with_reducible refine y_neB ?_ | with_reducible refine y_eqS ?_ | with_reducible refine y_neS ?_ | with_reducible refine y_isN ?_ | with_reducible refine y_isnN ?_ | with_reducible refine y_wget ?_ | with_reducible refine And.intro (len_ok (by with_unfolding_all exact rfl)) ?_))
      refine y_modI h0 ?_
      exact ⟨_, rfl, Int.emod_nonneg _ (by omega), Int.emod_lt_of_pos _ h0, t3, l3.trans l2, f2.trans f3⟩
    · (repeat (first | with_reducible refine w_seq ?_ | with_reducible refine w_set ?_ | with_reducible refine w_expr ?_ | with_reducible refine w_ret ?_ | with_reducible refine w_retN ?_ | with_reducible refine w_store ?_ | with_reducible refine w_nop ?_ | with_reducible refine w_for ?_ | with_reducible refine w_asg ?_ | with_reducible refine w_ct ?_ | with_reducible refine w_brk ?_ | with_reducible refine y_f2 ?_ | with_reducible refine y_C ?_ | with_reducible refine y_var (by with_unfolding_all exact rfl) ?_ | with_reducible refine y_f1 ?_ | with_reducible refine y_B ?_ | with_reducible refine y_unB ?_ | with_reducible refine y_ch ?_ | with_reducible refine y_tru ?_ | with_reducible refine y_tbl ?_ | with_reducible refine y_and ?_ | with_reducible refine y_or ?_ | with_reducible refine y_not ?_ | with_reducible refine y_andV ?_ | with_reducible refine y_notV ?_ | with_reducible refine y_nil ?_ | with_reducible refine y_cons ?_ | with_reducible refine y_tup ?_ | with_reducible refine y_lst ?_ | with_reducible refine y_val ?_ | with_reducible refine y_loc ?_ | with_reducible refine y_dval ?_ | with_reducible refine y_dloc ?_ | with_reducible refine y_ice ?_ | with_reducible refine y_oNone ?_ | with_reducible refine y_oSome ?_ | with_reducible refine y_sl ?_ | with_reducible refine y_A ?_ | with_reducible refine y_call ?_ | with_reducible refine y_M ?_ | with_reducible refine y_aComp ?_ | with_reducible refine y_rng1 ?_ | with_reducible refine y_over ?_ | with_reducible refine y_addI ?_ | with_reducible refine y_subI ?_ | with_reducible refine y_ltI ?_ | with_reducible refine y_leI ?_ | with_reducible refine y_gtI ?_ | with_reducible refine y_geI ?_ | with_reducible refine y_eqI ?_ | with_reducible refine y_neI ?_ | with_reducible refine y_eqB ?_ | with_reducible refine y_neB ?_ | with_reducible refine y_eqS ?_ | with_reducible refine y_neS ?_ | with_reducible refine y_isN ?_ | with_reducible refine y_isnN ?_ | with_reducible refine y_wget ?_ | with_reducible refine And.intro (len_ok (by with_unfolding_all exact rfl)) ?_))
      refine y_modI h0 ?_
      exact ⟨_, rfl, Int.emod_nonneg _ (by omega), Int.emod_lt_of_pos _ h0, ⟨cs, sp + 1, lf, h2, hl, by omega, by omega, hf⟩, l2, f2⟩
theorem draw {k n : Nat} {b many : Int} {S : Sto} (t : Tape n b S) (hb : b ≤ 2 ^ 100) (h0 : 0 < many) (h1 : many ≤ 1000000) : Y (call (k + 1) i_law_draw [.loc n, .int many] S) (Drawn1 n (b + 30) many S) :=
  draw_step t hb h0 (by omega) fun h => absurd h (by omega)

end Law

set_option Elab.async false
set_option linter.all false
set_option maxRecDepth 100000
set_option maxHeartbeats 2000000
namespace Law
open PySem PySem.Spec L2 DL
/-! ### words -/
theorem letters_low : Low "abcdefghijklmnopqrstuvwxyz" := by unfold Low; decide +kernel
theorem letters_len : (Str.length "abcdefghijklmnopqrstuvwxyz") = 26 := by decide +kernel
def ownW : List Str := ["nota", "andy", "org", "isa", "yesno", "given", "noa", "same"]
theorem own_split : Txt.split "nota andy org isa yesno given noa same" " " = ownW := by decide +kernel
theorem own_low : ∀ z ∈ ownW, Low z ∧ 1 ≤ z.length ∧ z.length ≤ 8 := by unfold Low; decide +kernel
/-- a letter of the alphabet -/
theorem y_letter {i : Int} {S : Sto} {Q : U → Sto → Prop} (h0 : 0 ≤ i) (h1 : i < 26) (h : ∀ z : Str, Low z → z.length = 1 → Q (.str z) S) : Y (ixU (.str "abcdefghijklmnopqrstuvwxyz") (.int i) S) Q :=
  y_ixS (by rw [letters_len]; decide) h0 (by rw [show (Str.cps "abcdefghijklmnopqrstuvwxyz").toList.length = 26 from by decide +kernel]; exact h1) fun c hc _ => h _ (letters_low.one hc) rfl
def WordL (z : Str) : Prop := Low z ∧ 1 ≤ z.length ∧ z.length ≤ 8
theorem words {k n m : Nat} {b : Int} {S : Sto} (t0 : Tape n b S) (hb : b + 30 * (8 + 3 * m) ≤ 2 ^ 100) (hm : m ≤ 60) :
    Y (call (k + 2) i_law_words [.loc n, .int m] S) fun u S' => ∃ ws : List Str, u = .lst (ws.map .str) ∧ ws.length = m ∧ (∀ w ∈ ws, WordL w) ∧ Tape n (b + 30 * (8 + 3 * m)) S' ∧ Fr [n] S S' := by
  refine y_run ?_
  show WS (b_law_words (call (k + 1)) [some (.loc n), some (.int m), none, none, none, none, none, none, none, none, none] S) _
  unfold b_law_words
  (repeat (first | with_reducible refine w_seq ?_ | with_reducible refine w_set ?_ | with_reducible refine w_expr ?_ | with_reducible refine w_ret ?_ | with_reducible refine w_retN ?_ | with_reducible refine w_store ?_ | with_reducible refine w_nop ?_ | with_reducible refine w_for ?_ | with_reducible refine w_asg ?_ | with_reducible refine w_ct ?_ | with_reducible refine w_brk ?_ | with_reducible refine y_f2 ?_ | with_reducible refine y_C ?_ | with_reducible refine y_var (by with_unfolding_all exact rfl) ?_ | with_reducible refine y_f1 ?_ | with_reducible refine y_B ?_ | with_reducible refine y_unB ?_ | with_reducible refine y_ch ?_ | with_reducible refine y_tru ?_ | with_reducible refine y_tbl ?_ | with_reducible refine y_and ?_ | with_reducible refine y_or ?_ | with_reducible refine y_not ?_ | with_reducible refine y_andV ?_ | with_reducible refine y_notV ?_ | with_reducible refine y_nil ?_ | with_reducible refine y_cons ?_ | with_reducible refine y_tup ?_ | with_reducible refine y_lst ?_ | with_reducible refine y_val ?_ | with_reducible refine y_loc ?_ | with_reducible refine y_dval ?_ | with_reducible refine y_dloc ?_ | with_reducible refine y_ice ?_ | with_reducible refine y_oNone ?_ | with_reducible refine y_oSome ?_ | with_reducible refine y_sl ?_ | with_reducible refine y_A ?_ | with_reducible refine y_call ?_ | with_reducible refine y_M ?_ | with_reducible refine y_aComp ?_ | with_reducible refine y_rng1 ?_ | with_reducible refine y_over ?_ | with_reducible refine y_addI ?_ | with_reducible refine y_subI ?_ | with_reducible refine y_ltI ?_ | with_reducible refine y_leI ?_ | with_reducible refine y_gtI ?_ | with_reducible refine y_geI ?_ | with_reducible refine y_eqI ?_ | with_reducible refine y_neI ?_ | with_reducible refine y_eqB ?_ | with_reducible refine y_neB ?_ | with_reducible refine y_eqS ?_ | with_reducible refine y_neS ?_ | with_reducible refine y_isN ?_ | with_reducible refine y_isnN ?_ | with_reducible refine y_wget ?_ | with_reducible refine And.intro (len_ok (by with_unfolding_all exact rfl)) ?_))
  refine ⟨rfl, ?_⟩
  (repeat (first | with_reducible refine w_seq ?_ | with_reducible refine w_set ?_ | with_reducible refine w_expr ?_ | with_reducible refine w_ret ?_ | with_reducible refine w_retN ?_ | with_reducible refine w_store ?_ | with_reducible refine w_nop ?_ | with_reducible refine w_for ?_ | with_reducible refine w_asg ?_ | with_reducible refine w_ct ?_ | with_reducible refine w_brk ?_ | with_reducible refine y_f2 ?_ | with_reducible refine y_C ?_ | with_reducible refine y_var (by with_unfolding_all exact rfl) ?_ | with_reducible refine y_f1 ?_ | with_reducible refine y_B ?_ | with_reducible refine y_unB ?_ | with_reducible refine y_ch ?_ | with_reducible refine y_tru ?_ | with_reducible refine y_tbl ?_ | with_reducible refine y_and ?_ | with_reducible refine y_or ?_ | with_reducible refine y_not ?_ | with_reducible refine y_andV ?_ | with_reducible refine y_notV ?_ | with_reducible refine y_nil ?_ | with_reducible refine y_cons ?_ | with_reducible refine y_tup ?_ | with_reducible refine y_lst ?_ | with_reducible refine y_val ?_ | with_reducible refine y_loc ?_ | with_reducible refine y_dval ?_ | with_reducible refine y_dloc ?_ | with_reducible refine y_ice ?_ | with_reducible refine y_oNone ?_ | with_reducible refine y_oSome ?_ | with_reducible refine y_sl ?_ | with_reducible refine y_A ?_ | with_reducible refine y_call ?_ | with_reducible refine y_M ?_ | with_reducible refine y_aComp ?_ | with_reducible refine y_rng1 ?_ | with_reducible refine y_over ?_ | with_reducible refine y_addI ?_ | with_reducible refine y_subI ?_ | with_reducible refine y_ltI ?_ | with_reducible refine y_leI ?_ | with_reducible refine y_gtI ?_ | with_reducible refine y_geI ?_ | with_reducible refine y_eqI ?_ | with_reducible refine y_neI ?_ | with_reducible refine y_eqB ?_ | with_reducible refine y_neB ?_ | with_reducible refine y_eqS ?_ | with_reducible refine y_neS ?_ | with_reducible refine y_isN ?_ | with_reducible refine y_isnN ?_ | with_reducible refine y_wget ?_ | with_reducible refine And.intro (len_ok (by with_unfolding_all exact rfl)) ?_))
  refine y_guard (by decide +kernel) (y_ok ?_)
  rw [own_split]
  (repeat (first | with_reducible refine w_seq ?_ | with_reducible refine w_set ?_ | with_reducible refine w_expr ?_ | with_reducible refine w_ret ?_ | with_reducible refine w_retN ?_ | with_reducible refine w_store ?_ | with_reducible refine w_nop ?_ | with_reducible refine w_for ?_ | with_reducible refine w_asg ?_ | with_reducible refine w_ct ?_ | with_reducible refine w_brk ?_ | with_reducible refine y_f2 ?_ | with_reducible refine y_C ?_ | with_reducible refine y_var (by with_unfolding_all exact rfl) ?_ | with_reducible refine y_f1 ?_ | with_reducible refine y_B ?_ | with_reducible refine y_unB ?_ | with_reducible refine y_ch ?_ | with_reducible refine y_tru ?_ | with_reducible refine y_tbl ?_ | with_reducible refine y_and ?_ | with_reducible refine y_or ?_ | with_reducible refine y_not ?_ | with_reducible refine y_andV ?_ | with_reducible refine y_notV ?_ | with_reducible refine y_nil ?_ | with_reducible refine y_cons ?_ | with_reducible refine y_tup ?_ | with_reducible refine y_lst ?_ | with_reducible refine y_val ?_ | with_reducible refine y_loc ?_ | with_reducible refine y_dval ?_ | with_reducible refine y_dloc ?_ | with_reducible refine y_ice ?_ | with_reducible refine y_oNone ?_ | with_reducible refine y_oSome ?_ | with_reducible refine y_sl ?_ | with_reducible refine y_A ?_ | with_reducible refine y_call ?_ | with_reducible refine y_M ?_ | with_reducible refine y_aComp ?_ | with_reducible refine y_rng1 ?_ | with_reducible refine y_over ?_ | with_reducible refine y_addI ?_ | with_reducible refine y_subI ?_ | with_reducible refine y_ltI ?_ | with_reducible refine y_leI ?_ | with_reducible refine y_gtI ?_ | with_reducible refine y_geI ?_ | with_reducible refine y_eqI ?_ | with_reducible refine y_neI ?_ | with_reducible refine y_eqB ?_ | with_reducible refine y_neB ?_ | with_reducible refine y_eqS ?_ | with_reducible refine y_neS ?_ | with_reducible refine y_isN ?_ | with_reducible refine y_isnN ?_ | with_reducible refine y_wget ?_ | with_reducible refine And.intro (len_ok (by with_unfolding_all exact rfl)) ?_))
  refine ⟨rfl, ?_⟩
  (repeat (first | with_reducible refine w_seq ?_ | with_reducible refine w_set ?_ | with_reducible refine w_expr ?_ | with_reducible refine w_ret ?_ | with_reducible refine w_retN ?_ | with_reducible refine w_store ?_ | with_reducible refine w_nop ?_ | with_reducible refine w_for ?_ | with_reducible refine w_asg ?_ | with_reducible refine w_ct ?_ | with_reducible refine w_brk ?_ | with_reducible refine y_f2 ?_ | with_reducible refine y_C ?_ | with_reducible refine y_var (by with_unfolding_all exact rfl) ?_ | with_reducible refine y_f1 ?_ | with_reducible refine y_B ?_ | with_reducible refine y_unB ?_ | with_reducible refine y_ch ?_ | with_reducible refine y_tru ?_ | with_reducible refine y_tbl ?_ | with_reducible refine y_and ?_ | with_reducible refine y_or ?_ | with_reducible refine y_not ?_ | with_reducible refine y_andV ?_ | with_reducible refine y_notV ?_ | with_reducible refine y_nil ?_ | with_reducible refine y_cons ?_ | with_reducible refine y_tup ?_ | with_reducible refine y_lst ?_ | with_reducible refine y_val ?_ | with_reducible refine y_loc ?_ | with_reducible refine y_dval ?_ | with_reducible refine y_dloc ?_ | with_reducible refine y_ice ?_ | with_reducible refine y_oNone ?_ | with_reducible refine y_oSome ?_ | with_reducible refine y_sl ?_ | with_reducible refine y_A ?_ | with_reducible refine y_call ?_ | with_reducible refine y_M ?_ | with_reducible refine y_aComp ?_ | with_reducible refine y_rng1 ?_ | with_reducible refine y_over ?_ | with_reducible refine y_addI ?_ | with_reducible refine y_subI ?_ | with_reducible refine y_ltI ?_ | with_reducible refine y_leI ?_ | with_reducible refine y_gtI ?_ | with_reducible refine y_geI ?_ | with_reducible refine y_eqI ?_ | with_reducible refine y_neI ?_ | with_reducible refine y_eqB ?_ | with_reducible refine y_neB ?_ | with_reducible refine y_eqS ?_ | with_reducible refine y_neS ?_ | with_reducible refine y_isN ?_ | with_reducible refine y_isnN ?_ | with_reducible refine y_wget ?_ | with_reducible refine And.intro (len_ok (by with_unfolding_all exact rfl)) ?_))
  refine ⟨rfl, (draw t0 (by omega) (by first | decide | omega) (by first | decide | omega)).mono ?_⟩; rintro _ S1 ⟨r1, rfl, r10, r11, t1, l1, f1⟩
  (repeat (first | with_reducible refine w_seq ?_ | with_reducible refine w_set ?_ | with_reducible refine w_expr ?_ | with_reducible refine w_ret ?_ | with_reducible refine w_retN ?_ | with_reducible refine w_store ?_ | with_reducible refine w_nop ?_ | with_reducible refine w_for ?_ | with_reducible refine w_asg ?_ | with_reducible refine w_ct ?_ | with_reducible refine w_brk ?_ | with_reducible refine y_f2 ?_ | with_reducible refine y_C ?_ | with_reducible refine y_var (by with_unfolding_all exact rfl) ?_ | with_reducible refine y_f1 ?_ | with_reducible refine y_B ?_ | with_reducible refine y_unB ?_ | with_reducible refine y_ch ?_ | with_reducible refine y_tru ?_ | with_reducible refine y_tbl ?_ | with_reducible refine y_and ?_ | with_reducible refine y_or ?_ | with_reducible refine y_not ?_ | with_reducible refine y_andV ?_ | with_reducible refine y_notV ?_ | with_reducible refine y_nil ?_ | with_reducible refine y_cons ?_ | with_reducible refine y_tup ?_ | with_reducible refine y_lst ?_ | with_reducible refine y_val ?_ | with_reducible refine y_loc ?_ | with_reducible refine y_dval ?_ | with_reducible refine y_dloc ?_ | with_reducible refine y_ice ?_ | with_reducible refine y_oNone ?_ | with_reducible refine y_oSome ?_ | with_reducible refine y_sl ?_ | with_reducible refine y_A ?_ | with_reducible refine y_call ?_ | with_reducible refine y_M ?_ | with_reducible refine y_aComp ?_ | with_reducible refine y_rng1 ?_ | with_reducible refine y_over ?_ | with_reducible refine y_addI ?_ | with_reducible refine y_subI ?_ | with_reducible refine y_ltI ?_ | with_reducible refine y_leI ?_ | with_reducible refine y_gtI ?_ | with_reducible refine y_geI ?_ | with_reducible refine y_eqI ?_ | with_reducible refine y_neI ?_ | with_reducible refine y_eqB ?_ | with_reducible refine y_neB ?_ | with_reducible refine y_eqS ?_ | with_reducible refine y_neS ?_ | with_reducible refine y_isN ?_ | with_reducible refine y_isnN ?_ | with_reducible refine y_wget ?_ | with_reducible refine And.intro (len_ok (by with_unfolding_all exact rfl)) ?_))
  refine ⟨_, rfl, by omega, by omega, ?_⟩
  refine (y_comp (Q := fun us S2 => ∃ ys : List Str, us = ys.map .str ∧ (∀ y ∈ ys, Low y ∧ y.length = 1) ∧ 1 ≤ ys.length ∧ ys.length ≤ 6 ∧ Tape n (b + 210) S2 ∧ Fr [n] S S2)
    (fun us acc S2 => ∃ ys : List Str, acc = ys.map .str ∧ (∀ y ∈ ys, Low y ∧ y.length = 1) ∧ (us.length : Int) + ys.length = 1 + r1 ∧ Tape n (b + 30 + 30 * ys.length) S2 ∧ Fr [n] S S2) ?_ ?_ _ _ _ ?_).mono ?_
  · rintro u us _ S2 ⟨ys, rfl, hy, hc, t2, f2⟩
    rw [List.length_cons] at hc
    refine ⟨by rw [List.length_map, sizeL]; omega, _, rfl, ?_⟩
    refine y_ok ?_
    rw [if_pos rfl]
    (repeat (first | with_reducible refine w_seq ?_ | with_reducible refine w_set ?_ | with_reducible refine w_expr ?_ | with_reducible refine w_ret ?_ | with_reducible refine w_retN ?_ | with_reducible refine w_store ?_ | with_reducible refine w_nop ?_ | with_reducible refine w_for ?_ | with_reducible refine w_asg ?_ | with_reducible refine w_ct ?_ | with_reducible refine w_brk ?_ | with_reducible refine y_f2 ?_ | with_reducible refine y_C ?_ | with_reducible refine y_var (by with_unfolding_all exact rfl) ?_ | with_reducible refine y_f1 ?_ | with_reducible refine y_B ?_ | with_reducible refine y_unB ?_ | with_reducible refine y_ch ?_ | with_reducible refine y_tru ?_ | with_reducible refine y_tbl ?_ | with_reducible refine y_and ?_ | with_reducible refine y_or ?_ | with_reducible refine y_not ?_ | with_reducible refine y_andV ?_ | with_reducible refine y_notV ?_ | with_reducible refine y_nil ?_ | with_reducible refine y_cons ?_ | with_reducible refine y_tup ?_ | with_reducible refine y_lst ?_ | with_reducible refine y_val ?_ | with_reducible refine y_loc ?_ | with_reducible refine y_dval ?_ | with_reducible refine y_dloc ?_ | with_reducible refine y_ice ?_ | with_reducible refine y_oNone ?_ | with_reducible refine y_oSome ?_ | with_reducible refine y_sl ?_ | with_reducible refine y_A ?_ | with_reducible refine y_call ?_ | with_reducible refine y_M ?_ | with_reducible refine y_aComp ?_ | with_reducible refine y_rng1 ?_ | with_reducible refine y_over ?_ | with_reducible refine y_addI ?_ | with_reducible refine y_subI ?_ | with_reducible refine y_ltI ?_ | with_reducible refine y_leI ?_ | with_reducible refine y_gtI ?_ | with_reducible refine y_geI ?_ | with_reducible refine y_eqI ?_ | with_reducible refine y_neI ?_ | with_reducible refine y_eqB ?_ | with_reducible refine y_neB ?_ | with_reducible refine y_eqS ?_ | with_reducible refine y_neS ?_ | with_reducible refine y_isN ?_ | with_reducible refine y_isnN ?_ | with_reducible refine y_wget ?_ | with_reducible refine And.intro (len_ok (by with_unfolding_all exact rfl)) ?_))
    refine ⟨rfl, (draw t2 (by omega) (by first | decide | omega) (by first | decide | omega)).mono ?_⟩; rintro _ S3 ⟨r3, rfl, r30, r31, t3, l3, f3⟩
    refine y_letter r30 r31 fun z hz1 hz2 => ?_
    refine ⟨ys ++ [z], by rw [List.map_append]; rfl, fun y h => (List.mem_append.mp h).elim (hy y) (fun h => ?_), by rw [List.length_append, List.length_singleton]; omega, t3.mono (by rw [List.length_append, List.length_singleton]; omega), f2.trans f3⟩
    rw [List.mem_singleton.mp h]
    exact ⟨hz1, hz2⟩
  · rintro _ S2 ⟨ys, rfl, hy, hc, t2, f2⟩
    exact ⟨ys, rfl, hy, by simp only [List.length_nil] at hc; omega, by simp only [List.length_nil] at hc; omega, t2.mono (by simp only [List.length_nil] at hc; omega), f2⟩
  · exact ⟨[], rfl, (by intro y h; cases h), by rw [rng_len]; simp only [List.length_nil]; omega, t1.mono (by simp only [List.length_nil]; omega), f1⟩
  rintro _ S2 ⟨ys, rfl, hy, hy1, hy6, t2, f2⟩
  (repeat (first | with_reducible refine w_seq ?_ | with_reducible refine w_set ?_ | with_reducible refine w_expr ?_ | with_reducible refine w_ret ?_ | with_reducible refine w_retN ?_ | with_reducible refine w_store ?_ | with_reducible refine w_nop ?_ | with_reducible refine w_for ?_ | with_reducible refine w_asg ?_ | with_reducible refine w_ct ?_ | with_reducible refine w_brk ?_ | with_reducible refine y_f2 ?_ | with_reducible refine y_C ?_ | with_reducible refine y_var (by with_unfolding_all exact rfl) ?_ | with_reducible refine y_f1 ?_ | with_reducible refine y_B ?_ | with_reducible refine y_unB ?_ | with_reducible refine y_ch ?_ | with_reducible refine y_tru ?_ | with_reducible refine y_tbl ?_ | with_reducible refine y_and ?_ | with_reducible refine y_or ?_ | with_reducible refine y_not ?_ | with_reducible refine y_andV ?_ | with_reducible refine y_notV ?_ | with_reducible refine y_nil ?_ | with_reducible refine y_cons ?_ | with_reducible refine y_tup ?_ | with_reducible refine y_lst ?_ | with_reducible refine y_val ?_ | with_reducible refine y_loc ?_ | with_reducible refine y_dval ?_ | with_reducible refine y_dloc ?_ | with_reducible refine y_ice ?_ | with_reducible refine y_oNone ?_ | with_reducible refine y_oSome ?_ | with_reducible refine y_sl ?_ | with_reducible refine y_A ?_ | with_reducible refine y_call ?_ | with_reducible refine y_M ?_ | with_reducible refine y_aComp ?_ | with_reducible refine y_rng1 ?_ | with_reducible refine y_over ?_ | with_reducible refine y_addI ?_ | with_reducible refine y_subI ?_ | with_reducible refine y_ltI ?_ | with_reducible refine y_leI ?_ | with_reducible refine y_gtI ?_ | with_reducible refine y_geI ?_ | with_reducible refine y_eqI ?_ | with_reducible refine y_neI ?_ | with_reducible refine y_eqB ?_ | with_reducible refine y_neB ?_ | with_reducible refine y_eqS ?_ | with_reducible refine y_neS ?_ | with_reducible refine y_isN ?_ | with_reducible refine y_isnN ?_ | with_reducible refine y_wget ?_ | with_reducible refine And.intro (len_ok (by with_unfolding_all exact rfl)) ?_))
  refine y_join1 (fun y h => (hy y h).2) (by omega) ?_
  have hbl : Low (Txt.join "" ys) := Low.join fun y h => (hy y h).1
  have hbn : (Txt.join "" ys).length = ys.length := len_join fun y h => (hy y h).2
  generalize Txt.join "" ys = base at hbl hbn ⊢
  (repeat (first | with_reducible refine w_seq ?_ | with_reducible refine w_set ?_ | with_reducible refine w_expr ?_ | with_reducible refine w_ret ?_ | with_reducible refine w_retN ?_ | with_reducible refine w_store ?_ | with_reducible refine w_nop ?_ | with_reducible refine w_for ?_ | with_reducible refine w_asg ?_ | with_reducible refine w_ct ?_ | with_reducible refine w_brk ?_ | with_reducible refine y_f2 ?_ | with_reducible refine y_C ?_ | with_reducible refine y_var (by with_unfolding_all exact rfl) ?_ | with_reducible refine y_f1 ?_ | with_reducible refine y_B ?_ | with_reducible refine y_unB ?_ | with_reducible refine y_ch ?_ | with_reducible refine y_tru ?_ | with_reducible refine y_tbl ?_ | with_reducible refine y_and ?_ | with_reducible refine y_or ?_ | with_reducible refine y_not ?_ | with_reducible refine y_andV ?_ | with_reducible refine y_notV ?_ | with_reducible refine y_nil ?_ | with_reducible refine y_cons ?_ | with_reducible refine y_tup ?_ | with_reducible refine y_lst ?_ | with_reducible refine y_val ?_ | with_reducible refine y_loc ?_ | with_reducible refine y_dval ?_ | with_reducible refine y_dloc ?_ | with_reducible refine y_ice ?_ | with_reducible refine y_oNone ?_ | with_reducible refine y_oSome ?_ | with_reducible refine y_sl ?_ | with_reducible refine y_A ?_ | with_reducible refine y_call ?_ | with_reducible refine y_M ?_ | with_reducible refine y_aComp ?_ | with_reducible refine y_rng1 ?_ | with_reducible refine y_over ?_ | with_reducible refine y_addI ?_ | with_reducible refine y_subI ?_ | with_reducible refine y_ltI ?_ | with_reducible refine y_leI ?_ | with_reducible refine y_gtI ?_ | with_reducible refine y_geI ?_ | with_reducible refine y_eqI ?_ | with_reducible refine y_neI ?_ | with_reducible refine y_eqB ?_ | with_reducible refine y_neB ?_ | with_reducible refine y_eqS ?_ | with_reducible refine y_neS ?_ | with_reducible refine y_isN ?_ | with_reducible refine y_isnN ?_ | with_reducible refine y_wget ?_ | with_reducible refine And.intro (len_ok (by with_unfolding_all exact rfl)) ?_))
  have f3 : Fr [n] S (S2 ++ [.lst []]) := f2.trans Fr.push
  have t3 : Tape n (b + 210) (S2 ++ [.lst []]) := t2.fr (ms := []) Fr.push (by simp)
  have hf : (S2 ++ [Ob.lst []])[S2.length]? = some (.lst []) := sto_snoc
  have hfs : S.length ≤ S2.length := f2.1
  have hfn : n < S.length := t0.lt
  generalize S2 ++ [Ob.lst []] = S3 at f3 t3 hf ⊢
  generalize S2.length = f at hf hfs ⊢
  clear hy
  (repeat (first | with_reducible refine w_seq ?_ | with_reducible refine w_set ?_ | with_reducible refine w_expr ?_ | with_reducible refine w_ret ?_ | with_reducible refine w_retN ?_ | with_reducible refine w_store ?_ | with_reducible refine w_nop ?_ | with_reducible refine w_for ?_ | with_reducible refine w_asg ?_ | with_reducible refine w_ct ?_ | with_reducible refine w_brk ?_ | with_reducible refine y_f2 ?_ | with_reducible refine y_C ?_ | with_reducible refine y_var (by with_unfolding_all exact rfl) ?_ | with_reducible refine y_f1 ?_ | with_reducible refine y_B ?_ | with_reducible refine y_unB ?_ | with_reducible refine y_ch ?_ | with_reducible refine y_tru ?_ | with_reducible refine y_tbl ?_ | with_reducible refine y_and ?_ | with_reducible refine y_or ?_ | with_reducible refine y_not ?_ | with_reducible refine y_andV ?_ | with_reducible refine y_notV ?_ | with_reducible refine y_nil ?_ | with_reducible refine y_cons ?_ | with_reducible refine y_tup ?_ | with_reducible refine y_lst ?_ | with_reducible refine y_val ?_ | with_reducible refine y_loc ?_ | with_reducible refine y_dval ?_ | with_reducible refine y_dloc ?_ | with_reducible refine y_ice ?_ | with_reducible refine y_oNone ?_ | with_reducible refine y_oSome ?_ | with_reducible refine y_sl ?_ | with_reducible refine y_A ?_ | with_reducible refine y_call ?_ | with_reducible refine y_M ?_ | with_reducible refine y_aComp ?_ | with_reducible refine y_rng1 ?_ | with_reducible refine y_over ?_ | with_reducible refine y_addI ?_ | with_reducible refine y_subI ?_ | with_reducible refine y_ltI ?_ | with_reducible refine y_leI ?_ | with_reducible refine y_gtI ?_ | with_reducible refine y_geI ?_ | with_reducible refine y_eqI ?_ | with_reducible refine y_neI ?_ | with_reducible refine y_eqB ?_ | with_reducible refine y_neB ?_ | with_reducible refine y_eqS ?_ | with_reducible refine y_neS ?_ | with_reducible refine y_isN ?_ | with_reducible refine y_isnN ?_ | with_reducible refine y_wget ?_ | with_reducible refine And.intro (len_ok (by with_unfolding_all exact rfl)) ?_))
  refine ⟨_, rfl, by omega, by omega, ?_⟩
  refine w_loop (fun us d S4 => ∃ (ws : List Str) (x6 x7 x8 x9 x10 : Option U), d = [some (.loc n), some (.int m), some (.str "abcdefghijklmnopqrstuvwxyz"), some (.lst (ownW.map .str)), some (.str base), some (.loc f), x6, x7, x8, x9, x10] ∧ us.length + ws.length = m ∧ (∀ w ∈ ws, WordL w) ∧ Tape n (b + 210 + 90 * ws.length) S4 ∧ S4[f]? = some (.lst (ws.map .str)) ∧ Fr [n] S S4) ?_ ?_ _ _ _ ?_
  · rintro u us _ S4 ⟨ws, x6, x7, x8, x9, x10, rfl, hc, hw, t4, hf4, f4⟩
    rw [List.length_cons] at hc
    refine ⟨_, rfl, ?_⟩
    (repeat (first | with_reducible refine w_seq ?_ | with_reducible refine w_set ?_ | with_reducible refine w_expr ?_ | with_reducible refine w_ret ?_ | with_reducible refine w_retN ?_ | with_reducible refine w_store ?_ | with_reducible refine w_nop ?_ | with_reducible refine w_for ?_ | with_reducible refine w_asg ?_ | with_reducible refine w_ct ?_ | with_reducible refine w_brk ?_ | with_reducible refine y_f2 ?_ | with_reducible refine y_C ?_ | with_reducible refine y_var (by with_unfolding_all exact rfl) ?_ | with_reducible refine y_f1 ?_ | with_reducible refine y_B ?_ | with_reducible refine y_unB ?_ | with_reducible refine y_ch ?_ | with_reducible refine y_tru ?_ | with_reducible refine y_tbl ?_ | with_reducible refine y_and ?_ | with_reducible refine y_or ?_ | with_reducible refine y_not ?_ | with_reducible refine y_andV ?_ | with_reducible refine y_notV ?_ | with_reducible refine y_nil ?_ | with_reducible refine y_cons ?_ | with_reducible refine y_tup ?_ | with_reducible refine y_lst ?_ | with_reducible refine y_val ?_ | with_reducible refine y_loc ?_ | with_reducible refine y_dval ?_ | with_reducible refine y_dloc ?_ | with_reducible refine y_ice ?_ | with_reducible refine y_oNone ?_ | with_reducible refine y_oSome ?_ | with_reducible refine y_sl ?_ | with_reducible refine y_A ?_ | with_reducible refine y_call ?_ | with_reducible refine y_M ?_ | with_reducible refine y_aComp ?_ | with_reducible refine y_rng1 ?_ | with_reducible refine y_over ?_ | with_reducible refine y_addI ?_ | with_reducible refine y_subI ?_ | with_reducible refine y_ltI ?_ | with_reducible refine y_leI ?_ | with_reducible refine y_gtI ?_ | with_reducible refine y_geI ?_ | with_reducible refine y_eqI ?_ | with_reducible refine y_neI ?_ | with_reducible refine y_eqB ?_ | with_reducible refine y_neB ?_ | with_reducible refine y_eqS ?_ | with_reducible refine y_neS ?_ | with_reducible refine y_isN ?_ | with_reducible refine y_isnN ?_ | with_reducible refine y_wget ?_ | with_reducible refine And.intro (len_ok (by with_unfolding_all exact rfl)) ?_))
    refine ⟨rfl, (draw t4 (by omega) (by first | decide | omega) (by first | decide | omega)).mono ?_⟩; rintro _ S5 ⟨r5, rfl, r50, r51, t5, l5, f5⟩
    refine y_letter r50 r51 fun z hz1 hz2 => ?_
    (repeat (first | with_reducible refine w_seq ?_ | with_reducible refine w_set ?_ | with_reducible refine w_expr ?_ | with_reducible refine w_ret ?_ | with_reducible refine w_retN ?_ | with_reducible refine w_store ?_ | with_reducible refine w_nop ?_ | with_reducible refine w_for ?_ | with_reducible refine w_asg ?_ | with_reducible refine w_ct ?_ | with_reducible refine w_brk ?_ | with_reducible refine y_f2 ?_ | with_reducible refine y_C ?_ | with_reducible refine y_var (by with_unfolding_all exact rfl) ?_ | with_reducible refine y_f1 ?_ | with_reducible refine y_B ?_ | with_reducible refine y_unB ?_ | with_reducible refine y_ch ?_ | with_reducible refine y_tru ?_ | with_reducible refine y_tbl ?_ | with_reducible refine y_and ?_ | with_reducible refine y_or ?_ | with_reducible refine y_not ?_ | with_reducible refine y_andV ?_ | with_reducible refine y_notV ?_ | with_reducible refine y_nil ?_ | with_reducible refine y_cons ?_ | with_reducible refine y_tup ?_ | with_reducible refine y_lst ?_ | with_reducible refine y_val ?_ | with_reducible refine y_loc ?_ | with_reducible refine y_dval ?_ | with_reducible refine y_dloc ?_ | with_reducible refine y_ice ?_ | with_reducible refine y_oNone ?_ | with_reducible refine y_oSome ?_ | with_reducible refine y_sl ?_ | with_reducible refine y_A ?_ | with_reducible refine y_call ?_ | with_reducible refine y_M ?_ | with_reducible refine y_aComp ?_ | with_reducible refine y_rng1 ?_ | with_reducible refine y_over ?_ | with_reducible refine y_addI ?_ | with_reducible refine y_subI ?_ | with_reducible refine y_ltI ?_ | with_reducible refine y_leI ?_ | with_reducible refine y_gtI ?_ | with_reducible refine y_geI ?_ | with_reducible refine y_eqI ?_ | with_reducible refine y_neI ?_ | with_reducible refine y_eqB ?_ | with_reducible refine y_neB ?_ | with_reducible refine y_eqS ?_ | with_reducible refine y_neS ?_ | with_reducible refine y_isN ?_ | with_reducible refine y_isnN ?_ | with_reducible refine y_wget ?_ | with_reducible refine And.intro (len_ok (by with_unfolding_all exact rfl)) ?_))
    refine y_addS (by rw [sizeL]; omega) ?_
    (repeat (first | with_reducible refine w_seq ?_ | with_reducible refine w_set ?_ | with_reducible refine w_expr ?_ | with_reducible refine w_ret ?_ | with_reducible refine w_retN ?_ | with_reducible refine w_store ?_ | with_reducible refine w_nop ?_ | with_reducible refine w_for ?_ | with_reducible refine w_asg ?_ | with_reducible refine w_ct ?_ | with_reducible refine w_brk ?_ | with_reducible refine y_f2 ?_ | with_reducible refine y_C ?_ | with_reducible refine y_var (by with_unfolding_all exact rfl) ?_ | with_reducible refine y_f1 ?_ | with_reducible refine y_B ?_ | with_reducible refine y_unB ?_ | with_reducible refine y_ch ?_ | with_reducible refine y_tru ?_ | with_reducible refine y_tbl ?_ | with_reducible refine y_and ?_ | with_reducible refine y_or ?_ | with_reducible refine y_not ?_ | with_reducible refine y_andV ?_ | with_reducible refine y_notV ?_ | with_reducible refine y_nil ?_ | with_reducible refine y_cons ?_ | with_reducible refine y_tup ?_ | with_reducible refine y_lst ?_ | with_reducible refine y_val ?_ | with_reducible refine y_loc ?_ | with_reducible refine y_dval ?_ | with_reducible refine y_dloc ?_ | with_reducible refine y_ice ?_ | with_reducible refine y_oNone ?_ | with_reducible refine y_oSome ?_ | with_reducible refine y_sl ?_ | with_reducible refine y_A ?_ | with_reducible refine y_call ?_ | with_reducible refine y_M ?_ | with_reducible refine y_aComp ?_ | with_reducible refine y_rng1 ?_ | with_reducible refine y_over ?_ | with_reducible refine y_addI ?_ | with_reducible refine y_subI ?_ | with_reducible refine y_ltI ?_ | with_reducible refine y_leI ?_ | with_reducible refine y_gtI ?_ | with_reducible refine y_geI ?_ | with_reducible refine y_eqI ?_ | with_reducible refine y_neI ?_ | with_reducible refine y_eqB ?_ | with_reducible refine y_neB ?_ | with_reducible refine y_eqS ?_ | with_reducible refine y_neS ?_ | with_reducible refine y_isN ?_ | with_reducible refine y_isnN ?_ | with_reducible refine y_wget ?_ | with_reducible refine And.intro (len_ok (by with_unfolding_all exact rfl)) ?_))
    refine y_addS (by rw [sizeL]; omega) ?_
    (repeat (first | with_reducible refine w_seq ?_ | with_reducible refine w_set ?_ | with_reducible refine w_expr ?_ | with_reducible refine w_ret ?_ | with_reducible refine w_retN ?_ | with_reducible refine w_store ?_ | with_reducible refine w_nop ?_ | with_reducible refine w_for ?_ | with_reducible refine w_asg ?_ | with_reducible refine w_ct ?_ | with_reducible refine w_brk ?_ | with_reducible refine y_f2 ?_ | with_reducible refine y_C ?_ | with_reducible refine y_var (by with_unfolding_all exact rfl) ?_ | with_reducible refine y_f1 ?_ | with_reducible refine y_B ?_ | with_reducible refine y_unB ?_ | with_reducible refine y_ch ?_ | with_reducible refine y_tru ?_ | with_reducible refine y_tbl ?_ | with_reducible refine y_and ?_ | with_reducible refine y_or ?_ | with_reducible refine y_not ?_ | with_reducible refine y_andV ?_ | with_reducible refine y_notV ?_ | with_reducible refine y_nil ?_ | with_reducible refine y_cons ?_ | with_reducible refine y_tup ?_ | with_reducible refine y_lst ?_ | with_reducible refine y_val ?_ | with_reducible refine y_loc ?_ | with_reducible refine y_dval ?_ | with_reducible refine y_dloc ?_ | with_reducible refine y_ice ?_ | with_reducible refine y_oNone ?_ | with_reducible refine y_oSome ?_ | with_reducible refine y_sl ?_ | with_reducible refine y_A ?_ | with_reducible refine y_call ?_ | with_reducible refine y_M ?_ | with_reducible refine y_aComp ?_ | with_reducible refine y_rng1 ?_ | with_reducible refine y_over ?_ | with_reducible refine y_addI ?_ | with_reducible refine y_subI ?_ | with_reducible refine y_ltI ?_ | with_reducible refine y_leI ?_ | with_reducible refine y_gtI ?_ | with_reducible refine y_geI ?_ | with_reducible refine y_eqI ?_ | with_reducible refine y_neI ?_ | with_reducible refine y_eqB ?_ | with_reducible refine y_neB ?_ | with_reducible refine y_eqS ?_ | with_reducible refine y_neS ?_ | with_reducible refine y_isN ?_ | with_reducible refine y_isnN ?_ | with_reducible refine y_wget ?_ | with_reducible refine And.intro (len_ok (by with_unfolding_all exact rfl)) ?_))
    refine y_addS (by rw [sizeL]; omega) ?_
    (repeat (first | with_reducible refine w_seq ?_ | with_reducible refine w_set ?_ | with_reducible refine w_expr ?_ | with_reducible refine w_ret ?_ | with_reducible refine w_retN ?_ | with_reducible refine w_store ?_ | with_reducible refine w_nop ?_ | with_reducible refine w_for ?_ | with_reducible refine w_asg ?_ | with_reducible refine w_ct ?_ | with_reducible refine w_brk ?_ | with_reducible refine y_f2 ?_ | with_reducible refine y_C ?_ | with_reducible refine y_var (by with_unfolding_all exact rfl) ?_ | with_reducible refine y_f1 ?_ | with_reducible refine y_B ?_ | with_reducible refine y_unB ?_ | with_reducible refine y_ch ?_ | with_reducible refine y_tru ?_ | with_reducible refine y_tbl ?_ | with_reducible refine y_and ?_ | with_reducible refine y_or ?_ | with_reducible refine y_not ?_ | with_reducible refine y_andV ?_ | with_reducible refine y_notV ?_ | with_reducible refine y_nil ?_ | with_reducible refine y_cons ?_ | with_reducible refine y_tup ?_ | with_reducible refine y_lst ?_ | with_reducible refine y_val ?_ | with_reducible refine y_loc ?_ | with_reducible refine y_dval ?_ | with_reducible refine y_dloc ?_ | with_reducible refine y_ice ?_ | with_reducible refine y_oNone ?_ | with_reducible refine y_oSome ?_ | with_reducible refine y_sl ?_ | with_reducible refine y_A ?_ | with_reducible refine y_call ?_ | with_reducible refine y_M ?_ | with_reducible refine y_aComp ?_ | with_reducible refine y_rng1 ?_ | with_reducible refine y_over ?_ | with_reducible refine y_addI ?_ | with_reducible refine y_subI ?_ | with_reducible refine y_ltI ?_ | with_reducible refine y_leI ?_ | with_reducible refine y_gtI ?_ | with_reducible refine y_geI ?_ | with_reducible refine y_eqI ?_ | with_reducible refine y_neI ?_ | with_reducible refine y_eqB ?_ | with_reducible refine y_neB ?_ | with_reducible refine y_eqS ?_ | with_reducible refine y_neS ?_ | with_reducible refine y_isN ?_ | with_reducible refine y_isnN ?_ | with_reducible refine y_wget ?_ | with_reducible refine And.intro (len_ok (by with_unfolding_all exact rfl)) ?_))
    refine y_addS (by rw [len_app, sizeL]; omega) ?_
    (repeat (first | with_reducible refine w_seq ?_ | with_reducible refine w_set ?_ | with_reducible refine w_expr ?_ | with_reducible refine w_ret ?_ | with_reducible refine w_retN ?_ | with_reducible refine w_store ?_ | with_reducible refine w_nop ?_ | with_reducible refine w_for ?_ | with_reducible refine w_asg ?_ | with_reducible refine w_ct ?_ | with_reducible refine w_brk ?_ | with_reducible refine y_f2 ?_ | with_reducible refine y_C ?_ | with_reducible refine y_var (by with_unfolding_all exact rfl) ?_ | with_reducible refine y_f1 ?_ | with_reducible refine y_B ?_ | with_reducible refine y_unB ?_ | with_reducible refine y_ch ?_ | with_reducible refine y_tru ?_ | with_reducible refine y_tbl ?_ | with_reducible refine y_and ?_ | with_reducible refine y_or ?_ | with_reducible refine y_not ?_ | with_reducible refine y_andV ?_ | with_reducible refine y_notV ?_ | with_reducible refine y_nil ?_ | with_reducible refine y_cons ?_ | with_reducible refine y_tup ?_ | with_reducible refine y_lst ?_ | with_reducible refine y_val ?_ | with_reducible refine y_loc ?_ | with_reducible refine y_dval ?_ | with_reducible refine y_dloc ?_ | with_reducible refine y_ice ?_ | with_reducible refine y_oNone ?_ | with_reducible refine y_oSome ?_ | with_reducible refine y_sl ?_ | with_reducible refine y_A ?_ | with_reducible refine y_call ?_ | with_reducible refine y_M ?_ | with_reducible refine y_aComp ?_ | with_reducible refine y_rng1 ?_ | with_reducible refine y_over ?_ | with_reducible refine y_addI ?_ | with_reducible refine y_subI ?_ | with_reducible refine y_ltI ?_ | with_reducible refine y_leI ?_ | with_reducible refine y_gtI ?_ | with_reducible refine y_geI ?_ | with_reducible refine y_eqI ?_ | with_reducible refine y_neI ?_ | with_reducible refine y_eqB ?_ | with_reducible refine y_neB ?_ | with_reducible refine y_eqS ?_ | with_reducible refine y_neS ?_ | with_reducible refine y_isN ?_ | with_reducible refine y_isnN ?_ | with_reducible refine y_wget ?_ | with_reducible refine And.intro (len_ok (by with_unfolding_all exact rfl)) ?_))
    refine ⟨rfl, (draw t5 (by omega) (by first | decide | omega) (by first | decide | omega)).mono ?_⟩; rintro _ S6 ⟨r6, rfl, r60, r61, t6, l6, f6⟩
    refine y_ixL r60 r61 fun o ho _ => ?_
    obtain ⟨o, hoo, rfl⟩ := List.mem_map.mp ho
    have ho := own_low o hoo
    (repeat (first | with_reducible refine w_seq ?_ | with_reducible refine w_set ?_ | with_reducible refine w_expr ?_ | with_reducible refine w_ret ?_ | with_reducible refine w_retN ?_ | with_reducible refine w_store ?_ | with_reducible refine w_nop ?_ | with_reducible refine w_for ?_ | with_reducible refine w_asg ?_ | with_reducible refine w_ct ?_ | with_reducible refine w_brk ?_ | with_reducible refine y_f2 ?_ | with_reducible refine y_C ?_ | with_reducible refine y_var (by with_unfolding_all exact rfl) ?_ | with_reducible refine y_f1 ?_ | with_reducible refine y_B ?_ | with_reducible refine y_unB ?_ | with_reducible refine y_ch ?_ | with_reducible refine y_tru ?_ | with_reducible refine y_tbl ?_ | with_reducible refine y_and ?_ | with_reducible refine y_or ?_ | with_reducible refine y_not ?_ | with_reducible refine y_andV ?_ | with_reducible refine y_notV ?_ | with_reducible refine y_nil ?_ | with_reducible refine y_cons ?_ | with_reducible refine y_tup ?_ | with_reducible refine y_lst ?_ | with_reducible refine y_val ?_ | with_reducible refine y_loc ?_ | with_reducible refine y_dval ?_ | with_reducible refine y_dloc ?_ | with_reducible refine y_ice ?_ | with_reducible refine y_oNone ?_ | with_reducible refine y_oSome ?_ | with_reducible refine y_sl ?_ | with_reducible refine y_A ?_ | with_reducible refine y_call ?_ | with_reducible refine y_M ?_ | with_reducible refine y_aComp ?_ | with_reducible refine y_rng1 ?_ | with_reducible refine y_over ?_ | with_reducible refine y_addI ?_ | with_reducible refine y_subI ?_ | with_reducible refine y_ltI ?_ | with_reducible refine y_leI ?_ | with_reducible refine y_gtI ?_ | with_reducible refine y_geI ?_ | with_reducible refine y_eqI ?_ | with_reducible refine y_neI ?_ | with_reducible refine y_eqB ?_ | with_reducible refine y_neB ?_ | with_reducible refine y_eqS ?_ | with_reducible refine y_neS ?_ | with_reducible refine y_isN ?_ | with_reducible refine y_isnN ?_ | with_reducible refine y_wget ?_ | with_reducible refine And.intro (len_ok (by with_unfolding_all exact rfl)) ?_))
    refine ⟨rfl, (draw t6 (by omega) (by first | decide | omega) (by first | decide | omega)).mono ?_⟩; rintro _ S7 ⟨r7, rfl, r70, r71, t7, l7, f7⟩
    refine y_ixL r70 r71 fun w0 hw0 _ => ?_
    obtain ⟨w0, rfl, hl0, hn0⟩ : ∃ z, w0 = .str z ∧ Low z ∧ 1 ≤ z.length ∧ z.length ≤ 16 := by
      simp only [List.mem_cons, List.mem_nil_iff, or_false] at hw0
      rcases hw0 with rfl | rfl | rfl | rfl | rfl | rfl
      · exact ⟨_, rfl, hbl, by omega⟩
      · exact ⟨_, rfl, hbl.app hz1, by rw [len_app]; omega⟩
      · exact ⟨_, rfl, hz1.app hbl, by rw [len_app]; omega⟩
      · exact ⟨_, rfl, hz1, by omega⟩
      · exact ⟨_, rfl, (hbl.app hz1).app hz1, by rw [len_app, len_app]; omega⟩
      · exact ⟨_, rfl, ho.1, by omega⟩
    (repeat (first | with_reducible refine w_seq ?_ | with_reducible refine w_set ?_ | with_reducible refine w_expr ?_ | with_reducible refine w_ret ?_ | with_reducible refine w_retN ?_ | with_reducible refine w_store ?_ | with_reducible refine w_nop ?_ | with_reducible refine w_for ?_ | with_reducible refine w_asg ?_ | with_reducible refine w_ct ?_ | with_reducible refine w_brk ?_ | with_reducible refine y_f2 ?_ | with_reducible refine y_C ?_ | with_reducible refine y_var (by with_unfolding_all exact rfl) ?_ | with_reducible refine y_f1 ?_ | with_reducible refine y_B ?_ | with_reducible refine y_unB ?_ | with_reducible refine y_ch ?_ | with_reducible refine y_tru ?_ | with_reducible refine y_tbl ?_ | with_reducible refine y_and ?_ | with_reducible refine y_or ?_ | with_reducible refine y_not ?_ | with_reducible refine y_andV ?_ | with_reducible refine y_notV ?_ | with_reducible refine y_nil ?_ | with_reducible refine y_cons ?_ | with_reducible refine y_tup ?_ | with_reducible refine y_lst ?_ | with_reducible refine y_val ?_ | with_reducible refine y_loc ?_ | with_reducible refine y_dval ?_ | with_reducible refine y_dloc ?_ | with_reducible refine y_ice ?_ | with_reducible refine y_oNone ?_ | with_reducible refine y_oSome ?_ | with_reducible refine y_sl ?_ | with_reducible refine y_A ?_ | with_reducible refine y_call ?_ | with_reducible refine y_M ?_ | with_reducible refine y_aComp ?_ | with_reducible refine y_rng1 ?_ | with_reducible refine y_over ?_ | with_reducible refine y_addI ?_ | with_reducible refine y_subI ?_ | with_reducible refine y_ltI ?_ | with_reducible refine y_leI ?_ | with_reducible refine y_gtI ?_ | with_reducible refine y_geI ?_ | with_reducible refine y_eqI ?_ | with_reducible refine y_neI ?_ | with_reducible refine y_eqB ?_ | with_reducible refine y_neB ?_ | with_reducible refine y_eqS ?_ | with_reducible refine y_neS ?_ | with_reducible refine y_isN ?_ | with_reducible refine y_isnN ?_ | with_reducible refine y_wget ?_ | with_reducible refine And.intro (len_ok (by with_unfolding_all exact rfl)) ?_))
    refine ⟨_, rfl, ?_⟩
    refine y_slS (by rw [sizeL]; omega) ?_
    have hw1 : WordL (cutS w0 none (some ((8 : Nat) : Int))) := ⟨hl0.take 8, by rw [len_take]; omega, by rw [len_take]; omega⟩
    generalize cutS w0 none (some 8) = w1 at hw1 ⊢
    have hf7 : S7[f]? = some (.lst (ws.map .str)) := f7.get (f6.get (f5.get hf4 (by simp; omega)) (by simp; omega)) (by simp; omega)
    have t7 : Tape n (b + 210 + 90 * (ws.length + 1)) S7 := t7.mono (by omega)
    have f7 : Fr [n] S S7 := f4.trans (f5.trans (f6.trans f7))
    clear hw0 hz1 hz2 ho t6 t5 f5 f6
    (repeat (first | with_reducible refine w_seq ?_ | with_reducible refine w_set ?_ | with_reducible refine w_expr ?_ | with_reducible refine w_ret ?_ | with_reducible refine w_retN ?_ | with_reducible refine w_store ?_ | with_reducible refine w_nop ?_ | with_reducible refine w_for ?_ | with_reducible refine w_asg ?_ | with_reducible refine w_ct ?_ | with_reducible refine w_brk ?_ | with_reducible refine y_f2 ?_ | with_reducible refine y_C ?_ | with_reducible refine y_var (by with_unfolding_all exact rfl) ?_ | with_reducible refine y_f1 ?_ | with_reducible refine y_B ?_ | with_reducible refine y_unB ?_ | with_reducible refine y_ch ?_ | with_reducible refine y_tru ?_ | with_reducible refine y_tbl ?_ | with_reducible refine y_and ?_ | with_reducible refine y_or ?_ | with_reducible refine y_not ?_ | with_reducible refine y_andV ?_ | with_reducible refine y_notV ?_ | with_reducible refine y_nil ?_ | with_reducible refine y_cons ?_ | with_reducible refine y_tup ?_ | with_reducible refine y_lst ?_ | with_reducible refine y_val ?_ | with_reducible refine y_loc ?_ | with_reducible refine y_dval ?_ | with_reducible refine y_dloc ?_ | with_reducible refine y_ice ?_ | with_reducible refine y_oNone ?_ | with_reducible refine y_oSome ?_ | with_reducible refine y_sl ?_ | with_reducible refine y_A ?_ | with_reducible refine y_call ?_ | with_reducible refine y_M ?_ | with_reducible refine y_aComp ?_ | with_reducible refine y_rng1 ?_ | with_reducible refine y_over ?_ | with_reducible refine y_addI ?_ | with_reducible refine y_subI ?_ | with_reducible refine y_ltI ?_ | with_reducible refine y_leI ?_ | with_reducible refine y_gtI ?_ | with_reducible refine y_geI ?_ | with_reducible refine y_eqI ?_ | with_reducible refine y_neI ?_ | with_reducible refine y_eqB ?_ | with_reducible refine y_neB ?_ | with_reducible refine y_eqS ?_ | with_reducible refine y_neS ?_ | with_reducible refine y_isN ?_ | with_reducible refine y_isnN ?_ | with_reducible refine y_wget ?_ | with_reducible refine And.intro (len_ok (by with_unfolding_all exact rfl)) ?_))
    refine ⟨_, rfl, ?_⟩
    refine w_loop (fun us d S8 => S8 = S7 ∧ (∀ u ∈ us, ∃ c : Str, u = .str c ∧ Low c ∧ c.length = 1) ∧ ∃ (w : Str) (x6 x7 x8 x10 : Option U), d = [some (.loc n), some (.int m), some (.str "abcdefghijklmnopqrstuvwxyz"), some (.lst (ownW.map .str)), some (.str base), some (.loc f), x6, x7, x8, some (.str w), x10] ∧ WordL w) ?_ ?_ _ _ _ ?_
    · rintro c us _ _ ⟨rfl, hcs, w, x6, x7, x8, x10, rfl, hw2⟩
      obtain ⟨c, rfl, hc1, hc2⟩ := hcs c List.mem_cons_self
      have hcs := fun u h => hcs u (List.mem_cons_of_mem _ h)
      refine ⟨_, rfl, ?_⟩
      refine w_ifP (fun _ => True) ?_ (fun _ => ?_) (fun _ => ?_)
      · (repeat (first | with_reducible refine w_seq ?_ | with_reducible refine w_set ?_ | with_reducible refine w_expr ?_ | with_reducible refine w_ret ?_ | with_reducible refine w_retN ?_ | with_reducible refine w_store ?_ | with_reducible refine w_nop ?_ | with_reducible refine w_for ?_ | with_reducible refine w_asg ?_ | with_reducible refine w_ct ?_ | with_reducible refine w_brk ?_ | with_reducible refine y_f2 ?_ | with_reducible refine y_C ?_ | with_reducible refine y_var (by with_unfolding_all exact rfl) ?_ | with_reducible refine y_f1 ?_ | with_reducible refine y_B ?_ | with_reducible refine y_unB ?_ | with_reducible refine y_ch ?_ | with_reducible refine y_tru ?_ | with_reducible refine y_tbl ?_ | with_reducible refine y_and ?_ | with_reducible refine y_or ?_ | with_reducible refine y_not ?_ | with_reducible refine y_andV ?_ | with_reducible refine y_notV ?_ | with_reducible refine y_nil ?_ | with_reducible refine y_cons ?_ | with_reducible refine y_tup ?_ | with_reducible refine y_lst ?_ | with_reducible refine y_val ?_ | with_reducible refine y_loc ?_ | with_reducible refine y_dval ?_ | with_reducible refine y_dloc ?_ | with_reducible refine y_ice ?_ | with_reducible refine y_oNone ?_ | with_reducible refine y_oSome ?_ | with_reducible refine y_sl ?_ | with_reducible refine y_A ?_ | with_reducible refine y_call ?_ | with_reducible refine y_M ?_ | with_reducible refine y_aComp ?_ | with_reducible refine y_rng1 ?_ | with_reducible refine y_over ?_ | with_reducible refine y_addI ?_ | with_reducible refine y_subI ?_ | with_reducible refine y_ltI ?_ | with_reducible refine y_leI ?_ | with_reducible refine y_gtI ?_ | with_reducible refine y_geI ?_ | with_reducible refine y_eqI ?_ | with_reducible refine y_neI ?_ | with_reducible refine y_eqB ?_ | with_reducible refine y_neB ?_ | with_reducible refine y_eqS ?_ | with_reducible refine y_neS ?_ | with_reducible refine y_isN ?_ | with_reducible refine y_isnN ?_ | with_reducible refine y_wget ?_ | with_reducible refine And.intro (len_ok (by with_unfolding_all exact rfl)) ?_))
        refine y_inL hf7 ?_
        (repeat (first | with_reducible refine w_seq ?_ | with_reducible refine w_set ?_ | with_reducible refine w_expr ?_ | with_reducible refine w_ret ?_ | with_reducible refine w_retN ?_ | with_reducible refine w_store ?_ | with_reducible refine w_nop ?_ | with_reducible refine w_for ?_ | with_reducible refine w_asg ?_ | with_reducible refine w_ct ?_ | with_reducible refine w_brk ?_ | with_reducible refine y_f2 ?_ | with_reducible refine y_C ?_ | with_reducible refine y_var (by with_unfolding_all exact rfl) ?_ | with_reducible refine y_f1 ?_ | with_reducible refine y_B ?_ | with_reducible refine y_unB ?_ | with_reducible refine y_ch ?_ | with_reducible refine y_tru ?_ | with_reducible refine y_tbl ?_ | with_reducible refine y_and ?_ | with_reducible refine y_or ?_ | with_reducible refine y_not ?_ | with_reducible refine y_andV ?_ | with_reducible refine y_notV ?_ | with_reducible refine y_nil ?_ | with_reducible refine y_cons ?_ | with_reducible refine y_tup ?_ | with_reducible refine y_lst ?_ | with_reducible refine y_val ?_ | with_reducible refine y_loc ?_ | with_reducible refine y_dval ?_ | with_reducible refine y_dloc ?_ | with_reducible refine y_ice ?_ | with_reducible refine y_oNone ?_ | with_reducible refine y_oSome ?_ | with_reducible refine y_sl ?_ | with_reducible refine y_A ?_ | with_reducible refine y_call ?_ | with_reducible refine y_M ?_ | with_reducible refine y_aComp ?_ | with_reducible refine y_rng1 ?_ | with_reducible refine y_over ?_ | with_reducible refine y_addI ?_ | with_reducible refine y_subI ?_ | with_reducible refine y_ltI ?_ | with_reducible refine y_leI ?_ | with_reducible refine y_gtI ?_ | with_reducible refine y_geI ?_ | with_reducible refine y_eqI ?_ | with_reducible refine y_neI ?_ | with_reducible refine y_eqB ?_ | with_reducible refine y_neB ?_ | with_reducible refine y_eqS ?_ | with_reducible refine y_neS ?_ | with_reducible refine y_isN ?_ | with_reducible refine y_isnN ?_ | with_reducible refine y_wget ?_ | with_reducible refine And.intro (len_ok (by with_unfolding_all exact rfl)) ?_))
        refine ite_b (fun _ => ⟨rfl, trivial⟩) (fun _ => ?_)
        (repeat (first | with_reducible refine w_seq ?_ | with_reducible refine w_set ?_ | with_reducible refine w_expr ?_ | with_reducible refine w_ret ?_ | with_reducible refine w_retN ?_ | with_reducible refine w_store ?_ | with_reducible refine w_nop ?_ | with_reducible refine w_for ?_ | with_reducible refine w_asg ?_ | with_reducible refine w_ct ?_ | with_reducible refine w_brk ?_ | with_reducible refine y_f2 ?_ | with_reducible refine y_C ?_ | with_reducible refine y_var (by with_unfolding_all exact rfl) ?_ | with_reducible refine y_f1 ?_ | with_reducible refine y_B ?_ | with_reducible refine y_unB ?_ | with_reducible refine y_ch ?_ | with_reducible refine y_tru ?_ | with_reducible refine y_tbl ?_ | with_reducible refine y_and ?_ | with_reducible refine y_or ?_ | with_reducible refine y_not ?_ | with_reducible refine y_andV ?_ | with_reducible refine y_notV ?_ | with_reducible refine y_nil ?_ | with_reducible refine y_cons ?_ | with_reducible refine y_tup ?_ | with_reducible refine y_lst ?_ | with_reducible refine y_val ?_ | with_reducible refine y_loc ?_ | with_reducible refine y_dval ?_ | with_reducible refine y_dloc ?_ | with_reducible refine y_ice ?_ | with_reducible refine y_oNone ?_ | with_reducible refine y_oSome ?_ | with_reducible refine y_sl ?_ | with_reducible refine y_A ?_ | with_reducible refine y_call ?_ | with_reducible refine y_M ?_ | with_reducible refine y_aComp ?_ | with_reducible refine y_rng1 ?_ | with_reducible refine y_over ?_ | with_reducible refine y_addI ?_ | with_reducible refine y_subI ?_ | with_reducible refine y_ltI ?_ | with_reducible refine y_leI ?_ | with_reducible refine y_gtI ?_ | with_reducible refine y_geI ?_ | with_reducible refine y_eqI ?_ | with_reducible refine y_neI ?_ | with_reducible refine y_eqB ?_ | with_reducible refine y_neB ?_ | with_reducible refine y_eqS ?_ | with_reducible refine y_neS ?_ | with_reducible refine y_isN ?_ | with_reducible refine y_isnN ?_ | with_reducible refine y_wget ?_ | with_reducible refine And.intro (len_ok (by with_unfolding_all exact rfl)) ?_))
        refine y_inT ["not", "and", "or", "gives", "is", "yes", "no"] rfl ?_
        (repeat (first | with_reducible refine w_seq ?_ | with_reducible refine w_set ?_ | with_reducible refine w_expr ?_ | with_reducible refine w_ret ?_ | with_reducible refine w_retN ?_ | with_reducible refine w_store ?_ | with_reducible refine w_nop ?_ | with_reducible refine w_for ?_ | with_reducible refine w_asg ?_ | with_reducible refine w_ct ?_ | with_reducible refine w_brk ?_ | with_reducible refine y_f2 ?_ | with_reducible refine y_C ?_ | with_reducible refine y_var (by with_unfolding_all exact rfl) ?_ | with_reducible refine y_f1 ?_ | with_reducible refine y_B ?_ | with_reducible refine y_unB ?_ | with_reducible refine y_ch ?_ | with_reducible refine y_tru ?_ | with_reducible refine y_tbl ?_ | with_reducible refine y_and ?_ | with_reducible refine y_or ?_ | with_reducible refine y_not ?_ | with_reducible refine y_andV ?_ | with_reducible refine y_notV ?_ | with_reducible refine y_nil ?_ | with_reducible refine y_cons ?_ | with_reducible refine y_tup ?_ | with_reducible refine y_lst ?_ | with_reducible refine y_val ?_ | with_reducible refine y_loc ?_ | with_reducible refine y_dval ?_ | with_reducible refine y_dloc ?_ | with_reducible refine y_ice ?_ | with_reducible refine y_oNone ?_ | with_reducible refine y_oSome ?_ | with_reducible refine y_sl ?_ | with_reducible refine y_A ?_ | with_reducible refine y_call ?_ | with_reducible refine y_M ?_ | with_reducible refine y_aComp ?_ | with_reducible refine y_rng1 ?_ | with_reducible refine y_over ?_ | with_reducible refine y_addI ?_ | with_reducible refine y_subI ?_ | with_reducible refine y_ltI ?_ | with_reducible refine y_leI ?_ | with_reducible refine y_gtI ?_ | with_reducible refine y_geI ?_ | with_reducible refine y_eqI ?_ | with_reducible refine y_neI ?_ | with_reducible refine y_eqB ?_ | with_reducible refine y_neB ?_ | with_reducible refine y_eqS ?_ | with_reducible refine y_neS ?_ | with_reducible refine y_isN ?_ | with_reducible refine y_isnN ?_ | with_reducible refine y_wget ?_ | with_reducible refine And.intro (len_ok (by with_unfolding_all exact rfl)) ?_))
        exact ⟨rfl, trivial⟩
      · (repeat (first | with_reducible refine w_seq ?_ | with_reducible refine w_set ?_ | with_reducible refine w_expr ?_ | with_reducible refine w_ret ?_ | with_reducible refine w_retN ?_ | with_reducible refine w_store ?_ | with_reducible refine w_nop ?_ | with_reducible refine w_for ?_ | with_reducible refine w_asg ?_ | with_reducible refine w_ct ?_ | with_reducible refine w_brk ?_ | with_reducible refine y_f2 ?_ | with_reducible refine y_C ?_ | with_reducible refine y_var (by with_unfolding_all exact rfl) ?_ | with_reducible refine y_f1 ?_ | with_reducible refine y_B ?_ | with_reducible refine y_unB ?_ | with_reducible refine y_ch ?_ | with_reducible refine y_tru ?_ | with_reducible refine y_tbl ?_ | with_reducible refine y_and ?_ | with_reducible refine y_or ?_ | with_reducible refine y_not ?_ | with_reducible refine y_andV ?_ | with_reducible refine y_notV ?_ | with_reducible refine y_nil ?_ | with_reducible refine y_cons ?_ | with_reducible refine y_tup ?_ | with_reducible refine y_lst ?_ | with_reducible refine y_val ?_ | with_reducible refine y_loc ?_ | with_reducible refine y_dval ?_ | with_reducible refine y_dloc ?_ | with_reducible refine y_ice ?_ | with_reducible refine y_oNone ?_ | with_reducible refine y_oSome ?_ | with_reducible refine y_sl ?_ | with_reducible refine y_A ?_ | with_reducible refine y_call ?_ | with_reducible refine y_M ?_ | with_reducible refine y_aComp ?_ | with_reducible refine y_rng1 ?_ | with_reducible refine y_over ?_ | with_reducible refine y_addI ?_ | with_reducible refine y_subI ?_ | with_reducible refine y_ltI ?_ | with_reducible refine y_leI ?_ | with_reducible refine y_gtI ?_ | with_reducible refine y_geI ?_ | with_reducible refine y_eqI ?_ | with_reducible refine y_neI ?_ | with_reducible refine y_eqB ?_ | with_reducible refine y_neB ?_ | with_reducible refine y_eqS ?_ | with_reducible refine y_neS ?_ | with_reducible refine y_isN ?_ | with_reducible refine y_isnN ?_ | with_reducible refine y_wget ?_ | with_reducible refine And.intro (len_ok (by with_unfolding_all exact rfl)) ?_))
        refine ⟨_, rfl, ?_⟩
        refine y_slS (by rw [sizeL]; have := hw2.2.2; omega) ?_
        have h3 : Low (cutS w none (some ((7 : Nat) : Int)) ++ c) := (hw2.1.take 7).app hc1
        have h4 : (cutS w none (some ((7 : Nat) : Int)) ++ c).length = min 7 w.length + 1 := by rw [len_app, len_take, hc2]
        have h5 : (cutS w none (some ((7 : Nat) : Int))).length ≤ 7 := by rw [len_take]; omega
        (repeat (first | with_reducible refine w_seq ?_ | with_reducible refine w_set ?_ | with_reducible refine w_expr ?_ | with_reducible refine w_ret ?_ | with_reducible refine w_retN ?_ | with_reducible refine w_store ?_ | with_reducible refine w_nop ?_ | with_reducible refine w_for ?_ | with_reducible refine w_asg ?_ | with_reducible refine w_ct ?_ | with_reducible refine w_brk ?_ | with_reducible refine y_f2 ?_ | with_reducible refine y_C ?_ | with_reducible refine y_var (by with_unfolding_all exact rfl) ?_ | with_reducible refine y_f1 ?_ | with_reducible refine y_B ?_ | with_reducible refine y_unB ?_ | with_reducible refine y_ch ?_ | with_reducible refine y_tru ?_ | with_reducible refine y_tbl ?_ | with_reducible refine y_and ?_ | with_reducible refine y_or ?_ | with_reducible refine y_not ?_ | with_reducible refine y_andV ?_ | with_reducible refine y_notV ?_ | with_reducible refine y_nil ?_ | with_reducible refine y_cons ?_ | with_reducible refine y_tup ?_ | with_reducible refine y_lst ?_ | with_reducible refine y_val ?_ | with_reducible refine y_loc ?_ | with_reducible refine y_dval ?_ | with_reducible refine y_dloc ?_ | with_reducible refine y_ice ?_ | with_reducible refine y_oNone ?_ | with_reducible refine y_oSome ?_ | with_reducible refine y_sl ?_ | with_reducible refine y_A ?_ | with_reducible refine y_call ?_ | with_reducible refine y_M ?_ | with_reducible refine y_aComp ?_ | with_reducible refine y_rng1 ?_ | with_reducible refine y_over ?_ | with_reducible refine y_addI ?_ | with_reducible refine y_subI ?_ | with_reducible refine y_ltI ?_ | with_reducible refine y_leI ?_ | with_reducible refine y_gtI ?_ | with_reducible refine y_geI ?_ | with_reducible refine y_eqI ?_ | with_reducible refine y_neI ?_ | with_reducible refine y_eqB ?_ | with_reducible refine y_neB ?_ | with_reducible refine y_eqS ?_ | with_reducible refine y_neS ?_ | with_reducible refine y_isN ?_ | with_reducible refine y_isnN ?_ | with_reducible refine y_wget ?_ | with_reducible refine And.intro (len_ok (by with_unfolding_all exact rfl)) ?_))
        refine y_addS (by rw [sizeL, hc2]; exact Nat.le_trans (Nat.add_le_add_right h5 1) (by decide)) ?_
        exact ⟨rfl, hcs, _, _, _, _, _, rfl, h3, by rw [show (cutS w none (some 7) ++ c).length = _ from h4]; omega, by rw [show (cutS w none (some 7) ++ c).length = _ from h4]; omega⟩
      · (repeat (first | with_reducible refine w_seq ?_ | with_reducible refine w_set ?_ | with_reducible refine w_expr ?_ | with_reducible refine w_ret ?_ | with_reducible refine w_retN ?_ | with_reducible refine w_store ?_ | with_reducible refine w_nop ?_ | with_reducible refine w_for ?_ | with_reducible refine w_asg ?_ | with_reducible refine w_ct ?_ | with_reducible refine w_brk ?_ | with_reducible refine y_f2 ?_ | with_reducible refine y_C ?_ | with_reducible refine y_var (by with_unfolding_all exact rfl) ?_ | with_reducible refine y_f1 ?_ | with_reducible refine y_B ?_ | with_reducible refine y_unB ?_ | with_reducible refine y_ch ?_ | with_reducible refine y_tru ?_ | with_reducible refine y_tbl ?_ | with_reducible refine y_and ?_ | with_reducible refine y_or ?_ | with_reducible refine y_not ?_ | with_reducible refine y_andV ?_ | with_reducible refine y_notV ?_ | with_reducible refine y_nil ?_ | with_reducible refine y_cons ?_ | with_reducible refine y_tup ?_ | with_reducible refine y_lst ?_ | with_reducible refine y_val ?_ | with_reducible refine y_loc ?_ | with_reducible refine y_dval ?_ | with_reducible refine y_dloc ?_ | with_reducible refine y_ice ?_ | with_reducible refine y_oNone ?_ | with_reducible refine y_oSome ?_ | with_reducible refine y_sl ?_ | with_reducible refine y_A ?_ | with_reducible refine y_call ?_ | with_reducible refine y_M ?_ | with_reducible refine y_aComp ?_ | with_reducible refine y_rng1 ?_ | with_reducible refine y_over ?_ | with_reducible refine y_addI ?_ | with_reducible refine y_subI ?_ | with_reducible refine y_ltI ?_ | with_reducible refine y_leI ?_ | with_reducible refine y_gtI ?_ | with_reducible refine y_geI ?_ | with_reducible refine y_eqI ?_ | with_reducible refine y_neI ?_ | with_reducible refine y_eqB ?_ | with_reducible refine y_neB ?_ | with_reducible refine y_eqS ?_ | with_reducible refine y_neS ?_ | with_reducible refine y_isN ?_ | with_reducible refine y_isnN ?_ | with_reducible refine y_wget ?_ | with_reducible refine And.intro (len_ok (by with_unfolding_all exact rfl)) ?_))
        exact ⟨rfl, hcs, _, _, _, _, _, rfl, hw2⟩
    · rintro d _ ⟨rfl, -, w, x6, x7, x8, x10, rfl, hw2⟩
      (repeat (first | with_reducible refine w_seq ?_ | with_reducible refine w_set ?_ | with_reducible refine w_expr ?_ | with_reducible refine w_ret ?_ | with_reducible refine w_retN ?_ | with_reducible refine w_store ?_ | with_reducible refine w_nop ?_ | with_reducible refine w_for ?_ | with_reducible refine w_asg ?_ | with_reducible refine w_ct ?_ | with_reducible refine w_brk ?_ | with_reducible refine y_f2 ?_ | with_reducible refine y_C ?_ | with_reducible refine y_var (by with_unfolding_all exact rfl) ?_ | with_reducible refine y_f1 ?_ | with_reducible refine y_B ?_ | with_reducible refine y_unB ?_ | with_reducible refine y_ch ?_ | with_reducible refine y_tru ?_ | with_reducible refine y_tbl ?_ | with_reducible refine y_and ?_ | with_reducible refine y_or ?_ | with_reducible refine y_not ?_ | with_reducible refine y_andV ?_ | with_reducible refine y_notV ?_ | with_reducible refine y_nil ?_ | with_reducible refine y_cons ?_ | with_reducible refine y_tup ?_ | with_reducible refine y_lst ?_ | with_reducible refine y_val ?_ | with_reducible refine y_loc ?_ | with_reducible refine y_dval ?_ | with_reducible refine y_dloc ?_ | with_reducible refine y_ice ?_ | with_reducible refine y_oNone ?_ | with_reducible refine y_oSome ?_ | with_reducible refine y_sl ?_ | with_reducible refine y_A ?_ | with_reducible refine y_call ?_ | with_reducible refine y_M ?_ | with_reducible refine y_aComp ?_ | with_reducible refine y_rng1 ?_ | with_reducible refine y_over ?_ | with_reducible refine y_addI ?_ | with_reducible refine y_subI ?_ | with_reducible refine y_ltI ?_ | with_reducible refine y_leI ?_ | with_reducible refine y_gtI ?_ | with_reducible refine y_geI ?_ | with_reducible refine y_eqI ?_ | with_reducible refine y_neI ?_ | with_reducible refine y_eqB ?_ | with_reducible refine y_neB ?_ | with_reducible refine y_eqS ?_ | with_reducible refine y_neS ?_ | with_reducible refine y_isN ?_ | with_reducible refine y_isnN ?_ | with_reducible refine y_wget ?_ | with_reducible refine And.intro (len_ok (by with_unfolding_all exact rfl)) ?_))
      refine ⟨ty_list hf7, ?_⟩
      (repeat (first | with_reducible refine w_seq ?_ | with_reducible refine w_set ?_ | with_reducible refine w_expr ?_ | with_reducible refine w_ret ?_ | with_reducible refine w_retN ?_ | with_reducible refine w_store ?_ | with_reducible refine w_nop ?_ | with_reducible refine w_for ?_ | with_reducible refine w_asg ?_ | with_reducible refine w_ct ?_ | with_reducible refine w_brk ?_ | with_reducible refine y_f2 ?_ | with_reducible refine y_C ?_ | with_reducible refine y_var (by with_unfolding_all exact rfl) ?_ | with_reducible refine y_f1 ?_ | with_reducible refine y_B ?_ | with_reducible refine y_unB ?_ | with_reducible refine y_ch ?_ | with_reducible refine y_tru ?_ | with_reducible refine y_tbl ?_ | with_reducible refine y_and ?_ | with_reducible refine y_or ?_ | with_reducible refine y_not ?_ | with_reducible refine y_andV ?_ | with_reducible refine y_notV ?_ | with_reducible refine y_nil ?_ | with_reducible refine y_cons ?_ | with_reducible refine y_tup ?_ | with_reducible refine y_lst ?_ | with_reducible refine y_val ?_ | with_reducible refine y_loc ?_ | with_reducible refine y_dval ?_ | with_reducible refine y_dloc ?_ | with_reducible refine y_ice ?_ | with_reducible refine y_oNone ?_ | with_reducible refine y_oSome ?_ | with_reducible refine y_sl ?_ | with_reducible refine y_A ?_ | with_reducible refine y_call ?_ | with_reducible refine y_M ?_ | with_reducible refine y_aComp ?_ | with_reducible refine y_rng1 ?_ | with_reducible refine y_over ?_ | with_reducible refine y_addI ?_ | with_reducible refine y_subI ?_ | with_reducible refine y_ltI ?_ | with_reducible refine y_leI ?_ | with_reducible refine y_gtI ?_ | with_reducible refine y_geI ?_ | with_reducible refine y_eqI ?_ | with_reducible refine y_neI ?_ | with_reducible refine y_eqB ?_ | with_reducible refine y_neB ?_ | with_reducible refine y_eqS ?_ | with_reducible refine y_neS ?_ | with_reducible refine y_isN ?_ | with_reducible refine y_isnN ?_ | with_reducible refine y_wget ?_ | with_reducible refine And.intro (len_ok (by with_unfolding_all exact rfl)) ?_))
      refine y_app hf7 (by rw [List.length_map, sizeL]; omega) ?_
      refine ⟨ws ++ [w], _, _, _, _, _, rfl, by rw [List.length_append, List.length_singleton]; omega, fun v hv => (List.mem_append.mp hv).elim (hw v) (fun h => by rw [List.mem_singleton.mp h]; exact hw2), ?_, ?_, f7.setNew hfs⟩
      · rw [List.length_append, List.length_singleton]
        exact t7.fr (ms := [f]) (Fr.set (by simp)) (by simp; omega)
      · rw [List.map_append]
        exact List.getElem?_set_self (List.getElem?_eq_some_iff.mp hf7).1
    · refine ⟨rfl, fun u hu => ?_, w1, _, _, _, _, rfl, hw1⟩
      obtain ⟨c, hc, rfl⟩ := List.mem_map.mp hu
      exact ⟨_, rfl, letters_low.one hc, rfl⟩
  · rintro d S4 ⟨ws, x6, x7, x8, x9, x10, rfl, hc, hw, t4, hf4, f4⟩
    (repeat (first | with_reducible refine w_seq ?_ | with_reducible refine w_set ?_ | with_reducible refine w_expr ?_ | with_reducible refine w_ret ?_ | with_reducible refine w_retN ?_ | with_reducible refine w_store ?_ | with_reducible refine w_nop ?_ | with_reducible refine w_for ?_ | with_reducible refine w_asg ?_ | with_reducible refine w_ct ?_ | with_reducible refine w_brk ?_ | with_reducible refine y_f2 ?_ | with_reducible refine y_C ?_ | with_reducible refine y_var (by with_unfolding_all exact rfl) ?_ | with_reducible refine y_f1 ?_ | with_reducible refine y_B ?_ | with_reducible refine y_unB ?_ | with_reducible refine y_ch ?_ | with_reducible refine y_tru ?_ | with_reducible refine y_tbl ?_ | with_reducible refine y_and ?_ | with_reducible refine y_or ?_ | with_reducible refine y_not ?_ | with_reducible refine y_andV ?_ | with_reducible refine y_notV ?_ | with_reducible refine y_nil ?_ | with_reducible refine y_cons ?_ | with_reducible refine y_tup ?_ | with_reducible refine y_lst ?_ | with_reducible refine y_val ?_ | with_reducible refine y_loc ?_ | with_reducible refine y_dval ?_ | with_reducible refine y_dloc ?_ | with_reducible refine y_ice ?_ | with_reducible refine y_oNone ?_ | with_reducible refine y_oSome ?_ | with_reducible refine y_sl ?_ | with_reducible refine y_A ?_ | with_reducible refine y_call ?_ | with_reducible refine y_M ?_ | with_reducible refine y_aComp ?_ | with_reducible refine y_rng1 ?_ | with_reducible refine y_over ?_ | with_reducible refine y_addI ?_ | with_reducible refine y_subI ?_ | with_reducible refine y_ltI ?_ | with_reducible refine y_leI ?_ | with_reducible refine y_gtI ?_ | with_reducible refine y_geI ?_ | with_reducible refine y_eqI ?_ | with_reducible refine y_neI ?_ | with_reducible refine y_eqB ?_ | with_reducible refine y_neB ?_ | with_reducible refine y_eqS ?_ | with_reducible refine y_neS ?_ | with_reducible refine y_isN ?_ | with_reducible refine y_isnN ?_ | with_reducible refine y_wget ?_ | with_reducible refine And.intro (len_ok (by with_unfolding_all exact rfl)) ?_))
    refine ⟨f, _, rfl, hf4, ws, rfl, by simp only [List.length_nil] at hc; omega, hw, ?_, f4.setNew hfs⟩
    exact (t4.fr (ms := [f]) (Fr.set (by simp)) (by simp; omega)).mono (by simp only [List.length_nil] at hc; omega)
  · exact ⟨[], none, none, none, none, none, rfl, by rw [rng_len]; simp, (by intro w h; cases h), t3.mono (by simp only [List.length_nil]; omega), hf, f3⟩

end Law

set_option Elab.async false
set_option linter.all false
set_option maxRecDepth 100000
set_option maxHeartbeats 2000000
namespace Law
open PySem PySem.Spec L2 DL
/-! ### sayings -/
def SaidP (n f : Nat) (ws : List Str) (b L : Int) (d : Nat) (S : Sto) (u : U) (S' : Sto) : Prop :=
  ∃ (x : Say) (L' : Int), u = x.u ∧ x.On (· ∈ ws) ∧ x.deep ≤ max d 1 ∧ S'[f]? = some (.lst [.int L']) ∧ (0 ≤ L → 0 ≤ L') ∧ (x.parts : Int) + L' ≤ 1 + L ∧ Tape n (b + cst d) S' ∧ Fr [n, f] S S'
theorem say_step {n f : Nat} {ws : List Str} (hnf : n ≠ f) (hw0 : 1 ≤ ws.length) (hw1 : ws.length ≤ 1000) (d k : Nat) {b L : Int} {S : Sto} (t0 : Tape n b S) (hb : b + cst d ≤ 2 ^ 100) (hf : S[f]? = some (.lst [.int L]))
    (hrec : ∀ e, d = e + 1 → ∀ {b L : Int} {S : Sto}, Tape n b S → b + cst e ≤ 2 ^ 100 → S[f]? = some (.lst [.int L]) → Y (call (k + 1) i_law_saying [.loc n, .lst (ws.map .str), .loc f, .int e] S) (SaidP n f ws b L e S)) :
    Y (call (k + 2) i_law_saying [.loc n, .lst (ws.map .str), .loc f, .int d] S) (SaidP n f ws b L d S) := by
  have hc := cst_pos d
  refine y_run ?_
  show WS (b_law_saying (call (k + 1)) [some (.loc n), some (.lst (ws.map .str)), some (.loc f), some (.int d), none, none, none] S) _
  unfold b_law_saying
  (repeat (first | with_reducible refine w_seq ?_ | with_reducible refine w_set ?_ | with_reducible refine w_expr ?_ | with_reducible refine w_ret ?_ | with_reducible refine w_retN ?_ | with_reducible refine w_store ?_ | with_reducible refine w_nop ?_ | with_reducible refine w_for ?_ | with_reducible refine w_asg ?_ | with_reducible refine w_ct ?_ | with_reducible refine w_brk ?_ | with_reducible refine y_f2 ?_ | with_reducible refine y_C ?_ | with_reducible refine y_var (by with_unfolding_all exact rfl) ?_ | with_reducible refine y_f1 ?_ | with_reducible refine y_B ?_ | with_reducible refine y_unB ?_ | with_reducible refine y_ch ?_ | with_reducible refine y_tru ?_ | with_reducible refine y_tbl ?_ | with_reducible refine y_and ?_ | with_reducible refine y_or ?_ | with_reducible refine y_not ?_ | with_reducible refine y_andV ?_ | with_reducible refine y_notV ?_ | with_reducible refine y_nil ?_ | with_reducible refine y_cons ?_ | with_reducible refine y_tup ?_ | with_reducible refine y_lst ?_ | with_reducible refine y_val ?_ | with_reducible refine y_loc ?_ | with_reducible refine y_dval ?_ | with_reducible refine y_dloc ?_ | with_reducible refine y_ice ?_ | with_reducible refine y_oNone ?_ | with_reducible refine y_oSome ?_ | with_reducible refine y_sl ?_ | with_reducible refine y_A ?_ | with_reducible refine y_call ?_ | with_reducible refine y_M ?_ | with_reducible refine y_aComp ?_ | with_reducible refine y_rng1 ?_ | with_reducible refine y_over ?_ | with_reducible refine y_addI ?_ | with_reducible refine y_subI ?_ | with_reducible refine y_ltI ?_ | with_reducible refine y_leI ?_ | with_reducible refine y_gtI ?_ | with_reducible refine y_geI ?_ | with_reducible refine y_eqI ?_ | with_reducible refine y_neI ?_ | with_reducible refine y_eqB ?_ | with_reducible refine y_neB ?_ | with_reducible refine y_eqS ?_ | with_reducible refine y_neS ?_ | with_reducible refine y_isN ?_ | with_reducible refine y_isnN ?_ | with_reducible refine y_wget ?_ | with_reducible refine And.intro (len_ok (by with_unfolding_all exact rfl)) ?_))
  refine ⟨rfl, (draw t0 (by omega) (by first | decide | omega) (by first | decide | omega)).mono ?_⟩; rintro _ S1 ⟨r1, rfl, r10, r11, t1, l1, f1⟩
  have hf1 : S1[f]? = some (.lst [.int L]) := f1.get hf (by simp; omega)
  have f1 : Fr [n, f] S S1 := f1.more (by simp)
  (repeat (first | with_reducible refine w_seq ?_ | with_reducible refine w_set ?_ | with_reducible refine w_expr ?_ | with_reducible refine w_ret ?_ | with_reducible refine w_retN ?_ | with_reducible refine w_store ?_ | with_reducible refine w_nop ?_ | with_reducible refine w_for ?_ | with_reducible refine w_asg ?_ | with_reducible refine w_ct ?_ | with_reducible refine w_brk ?_ | with_reducible refine y_f2 ?_ | with_reducible refine y_C ?_ | with_reducible refine y_var (by with_unfolding_all exact rfl) ?_ | with_reducible refine y_f1 ?_ | with_reducible refine y_B ?_ | with_reducible refine y_unB ?_ | with_reducible refine y_ch ?_ | with_reducible refine y_tru ?_ | with_reducible refine y_tbl ?_ | with_reducible refine y_and ?_ | with_reducible refine y_or ?_ | with_reducible refine y_not ?_ | with_reducible refine y_andV ?_ | with_reducible refine y_notV ?_ | with_reducible refine y_nil ?_ | with_reducible refine y_cons ?_ | with_reducible refine y_tup ?_ | with_reducible refine y_lst ?_ | with_reducible refine y_val ?_ | with_reducible refine y_loc ?_ | with_reducible refine y_dval ?_ | with_reducible refine y_dloc ?_ | with_reducible refine y_ice ?_ | with_reducible refine y_oNone ?_ | with_reducible refine y_oSome ?_ | with_reducible refine y_sl ?_ | with_reducible refine y_A ?_ | with_reducible refine y_call ?_ | with_reducible refine y_M ?_ | with_reducible refine y_aComp ?_ | with_reducible refine y_rng1 ?_ | with_reducible refine y_over ?_ | with_reducible refine y_addI ?_ | with_reducible refine y_subI ?_ | with_reducible refine y_ltI ?_ | with_reducible refine y_leI ?_ | with_reducible refine y_gtI ?_ | with_reducible refine y_geI ?_ | with_reducible refine y_eqI ?_ | with_reducible refine y_neI ?_ | with_reducible refine y_eqB ?_ | with_reducible refine y_neB ?_ | with_reducible refine y_eqS ?_ | with_reducible refine y_neS ?_ | with_reducible refine y_isN ?_ | with_reducible refine y_isnN ?_ | with_reducible refine y_wget ?_ | with_reducible refine And.intro (len_ok (by with_unfolding_all exact rfl)) ?_))
  refine w_ifP (fun b => b = false → 2 ≤ L ∧ 2 ≤ d ∧ 3 ≤ r1) ?_ (fun _ => ?_) (fun hb1 => ?_)
  · (repeat (first | with_reducible refine w_seq ?_ | with_reducible refine w_set ?_ | with_reducible refine w_expr ?_ | with_reducible refine w_ret ?_ | with_reducible refine w_retN ?_ | with_reducible refine w_store ?_ | with_reducible refine w_nop ?_ | with_reducible refine w_for ?_ | with_reducible refine w_asg ?_ | with_reducible refine w_ct ?_ | with_reducible refine w_brk ?_ | with_reducible refine y_f2 ?_ | with_reducible refine y_C ?_ | with_reducible refine y_var (by with_unfolding_all exact rfl) ?_ | with_reducible refine y_f1 ?_ | with_reducible refine y_B ?_ | with_reducible refine y_unB ?_ | with_reducible refine y_ch ?_ | with_reducible refine y_tru ?_ | with_reducible refine y_tbl ?_ | with_reducible refine y_and ?_ | with_reducible refine y_or ?_ | with_reducible refine y_not ?_ | with_reducible refine y_andV ?_ | with_reducible refine y_notV ?_ | with_reducible refine y_nil ?_ | with_reducible refine y_cons ?_ | with_reducible refine y_tup ?_ | with_reducible refine y_lst ?_ | with_reducible refine y_val ?_ | with_reducible refine y_loc ?_ | with_reducible refine y_dval ?_ | with_reducible refine y_dloc ?_ | with_reducible refine y_ice ?_ | with_reducible refine y_oNone ?_ | with_reducible refine y_oSome ?_ | with_reducible refine y_sl ?_ | with_reducible refine y_A ?_ | with_reducible refine y_call ?_ | with_reducible refine y_M ?_ | with_reducible refine y_aComp ?_ | with_reducible refine y_rng1 ?_ | with_reducible refine y_over ?_ | with_reducible refine y_addI ?_ | with_reducible refine y_subI ?_ | with_reducible refine y_ltI ?_ | with_reducible refine y_leI ?_ | with_reducible refine y_gtI ?_ | with_reducible refine y_geI ?_ | with_reducible refine y_eqI ?_ | with_reducible refine y_neI ?_ | with_reducible refine y_eqB ?_ | with_reducible refine y_neB ?_ | with_reducible refine y_eqS ?_ | with_reducible refine y_neS ?_ | with_reducible refine y_isN ?_ | with_reducible refine y_isnN ?_ | with_reducible refine y_wget ?_ | with_reducible refine And.intro (len_ok (by with_unfolding_all exact rfl)) ?_))
    refine y_ix (ix_first hf1) ?_
    (repeat (first | with_reducible refine w_seq ?_ | with_reducible refine w_set ?_ | with_reducible refine w_expr ?_ | with_reducible refine w_ret ?_ | with_reducible refine w_retN ?_ | with_reducible refine w_store ?_ | with_reducible refine w_nop ?_ | with_reducible refine w_for ?_ | with_reducible refine w_asg ?_ | with_reducible refine w_ct ?_ | with_reducible refine w_brk ?_ | with_reducible refine y_f2 ?_ | with_reducible refine y_C ?_ | with_reducible refine y_var (by with_unfolding_all exact rfl) ?_ | with_reducible refine y_f1 ?_ | with_reducible refine y_B ?_ | with_reducible refine y_unB ?_ | with_reducible refine y_ch ?_ | with_reducible refine y_tru ?_ | with_reducible refine y_tbl ?_ | with_reducible refine y_and ?_ | with_reducible refine y_or ?_ | with_reducible refine y_not ?_ | with_reducible refine y_andV ?_ | with_reducible refine y_notV ?_ | with_reducible refine y_nil ?_ | with_reducible refine y_cons ?_ | with_reducible refine y_tup ?_ | with_reducible refine y_lst ?_ | with_reducible refine y_val ?_ | with_reducible refine y_loc ?_ | with_reducible refine y_dval ?_ | with_reducible refine y_dloc ?_ | with_reducible refine y_ice ?_ | with_reducible refine y_oNone ?_ | with_reducible refine y_oSome ?_ | with_reducible refine y_sl ?_ | with_reducible refine y_A ?_ | with_reducible refine y_call ?_ | with_reducible refine y_M ?_ | with_reducible refine y_aComp ?_ | with_reducible refine y_rng1 ?_ | with_reducible refine y_over ?_ | with_reducible refine y_addI ?_ | with_reducible refine y_subI ?_ | with_reducible refine y_ltI ?_ | with_reducible refine y_leI ?_ | with_reducible refine y_gtI ?_ | with_reducible refine y_geI ?_ | with_reducible refine y_eqI ?_ | with_reducible refine y_neI ?_ | with_reducible refine y_eqB ?_ | with_reducible refine y_neB ?_ | with_reducible refine y_eqS ?_ | with_reducible refine y_neS ?_ | with_reducible refine y_isN ?_ | with_reducible refine y_isnN ?_ | with_reducible refine y_wget ?_ | with_reducible refine And.intro (len_ok (by with_unfolding_all exact rfl)) ?_))
    refine ite_b (fun _ => ⟨rfl, fun h => by cases h⟩) (fun c1 => ?_)
    (repeat (first | with_reducible refine w_seq ?_ | with_reducible refine w_set ?_ | with_reducible refine w_expr ?_ | with_reducible refine w_ret ?_ | with_reducible refine w_retN ?_ | with_reducible refine w_store ?_ | with_reducible refine w_nop ?_ | with_reducible refine w_for ?_ | with_reducible refine w_asg ?_ | with_reducible refine w_ct ?_ | with_reducible refine w_brk ?_ | with_reducible refine y_f2 ?_ | with_reducible refine y_C ?_ | with_reducible refine y_var (by with_unfolding_all exact rfl) ?_ | with_reducible refine y_f1 ?_ | with_reducible refine y_B ?_ | with_reducible refine y_unB ?_ | with_reducible refine y_ch ?_ | with_reducible refine y_tru ?_ | with_reducible refine y_tbl ?_ | with_reducible refine y_and ?_ | with_reducible refine y_or ?_ | with_reducible refine y_not ?_ | with_reducible refine y_andV ?_ | with_reducible refine y_notV ?_ | with_reducible refine y_nil ?_ | with_reducible refine y_cons ?_ | with_reducible refine y_tup ?_ | with_reducible refine y_lst ?_ | with_reducible refine y_val ?_ | with_reducible refine y_loc ?_ | with_reducible refine y_dval ?_ | with_reducible refine y_dloc ?_ | with_reducible refine y_ice ?_ | with_reducible refine y_oNone ?_ | with_reducible refine y_oSome ?_ | with_reducible refine y_sl ?_ | with_reducible refine y_A ?_ | with_reducible refine y_call ?_ | with_reducible refine y_M ?_ | with_reducible refine y_aComp ?_ | with_reducible refine y_rng1 ?_ | with_reducible refine y_over ?_ | with_reducible refine y_addI ?_ | with_reducible refine y_subI ?_ | with_reducible refine y_ltI ?_ | with_reducible refine y_leI ?_ | with_reducible refine y_gtI ?_ | with_reducible refine y_geI ?_ | with_reducible refine y_eqI ?_ | with_reducible refine y_neI ?_ | with_reducible refine y_eqB ?_ | with_reducible refine y_neB ?_ | with_reducible refine y_eqS ?_ | with_reducible refine y_neS ?_ | with_reducible refine y_isN ?_ | with_reducible refine y_isnN ?_ | with_reducible refine y_wget ?_ | with_reducible refine And.intro (len_ok (by with_unfolding_all exact rfl)) ?_))
    refine ite_b (fun _ => ⟨rfl, fun h => by cases h⟩) (fun c2 => ?_)
    (repeat (first | with_reducible refine w_seq ?_ | with_reducible refine w_set ?_ | with_reducible refine w_expr ?_ | with_reducible refine w_ret ?_ | with_reducible refine w_retN ?_ | with_reducible refine w_store ?_ | with_reducible refine w_nop ?_ | with_reducible refine w_for ?_ | with_reducible refine w_asg ?_ | with_reducible refine w_ct ?_ | with_reducible refine w_brk ?_ | with_reducible refine y_f2 ?_ | with_reducible refine y_C ?_ | with_reducible refine y_var (by with_unfolding_all exact rfl) ?_ | with_reducible refine y_f1 ?_ | with_reducible refine y_B ?_ | with_reducible refine y_unB ?_ | with_reducible refine y_ch ?_ | with_reducible refine y_tru ?_ | with_reducible refine y_tbl ?_ | with_reducible refine y_and ?_ | with_reducible refine y_or ?_ | with_reducible refine y_not ?_ | with_reducible refine y_andV ?_ | with_reducible refine y_notV ?_ | with_reducible refine y_nil ?_ | with_reducible refine y_cons ?_ | with_reducible refine y_tup ?_ | with_reducible refine y_lst ?_ | with_reducible refine y_val ?_ | with_reducible refine y_loc ?_ | with_reducible refine y_dval ?_ | with_reducible refine y_dloc ?_ | with_reducible refine y_ice ?_ | with_reducible refine y_oNone ?_ | with_reducible refine y_oSome ?_ | with_reducible refine y_sl ?_ | with_reducible refine y_A ?_ | with_reducible refine y_call ?_ | with_reducible refine y_M ?_ | with_reducible refine y_aComp ?_ | with_reducible refine y_rng1 ?_ | with_reducible refine y_over ?_ | with_reducible refine y_addI ?_ | with_reducible refine y_subI ?_ | with_reducible refine y_ltI ?_ | with_reducible refine y_leI ?_ | with_reducible refine y_gtI ?_ | with_reducible refine y_geI ?_ | with_reducible refine y_eqI ?_ | with_reducible refine y_neI ?_ | with_reducible refine y_eqB ?_ | with_reducible refine y_neB ?_ | with_reducible refine y_eqS ?_ | with_reducible refine y_neS ?_ | with_reducible refine y_isN ?_ | with_reducible refine y_isnN ?_ | with_reducible refine y_wget ?_ | with_reducible refine And.intro (len_ok (by with_unfolding_all exact rfl)) ?_))
    refine ⟨rfl, fun c3 => ?_⟩
    have := of_decide_eq_false c1
    have := of_decide_eq_false c2
    have := of_decide_eq_false c3
    omega
  · (repeat (first | with_reducible refine w_seq ?_ | with_reducible refine w_set ?_ | with_reducible refine w_expr ?_ | with_reducible refine w_ret ?_ | with_reducible refine w_retN ?_ | with_reducible refine w_store ?_ | with_reducible refine w_nop ?_ | with_reducible refine w_for ?_ | with_reducible refine w_asg ?_ | with_reducible refine w_ct ?_ | with_reducible refine w_brk ?_ | with_reducible refine y_f2 ?_ | with_reducible refine y_C ?_ | with_reducible refine y_var (by with_unfolding_all exact rfl) ?_ | with_reducible refine y_f1 ?_ | with_reducible refine y_B ?_ | with_reducible refine y_unB ?_ | with_reducible refine y_ch ?_ | with_reducible refine y_tru ?_ | with_reducible refine y_tbl ?_ | with_reducible refine y_and ?_ | with_reducible refine y_or ?_ | with_reducible refine y_not ?_ | with_reducible refine y_andV ?_ | with_reducible refine y_notV ?_ | with_reducible refine y_nil ?_ | with_reducible refine y_cons ?_ | with_reducible refine y_tup ?_ | with_reducible refine y_lst ?_ | with_reducible refine y_val ?_ | with_reducible refine y_loc ?_ | with_reducible refine y_dval ?_ | with_reducible refine y_dloc ?_ | with_reducible refine y_ice ?_ | with_reducible refine y_oNone ?_ | with_reducible refine y_oSome ?_ | with_reducible refine y_sl ?_ | with_reducible refine y_A ?_ | with_reducible refine y_call ?_ | with_reducible refine y_M ?_ | with_reducible refine y_aComp ?_ | with_reducible refine y_rng1 ?_ | with_reducible refine y_over ?_ | with_reducible refine y_addI ?_ | with_reducible refine y_subI ?_ | with_reducible refine y_ltI ?_ | with_reducible refine y_leI ?_ | with_reducible refine y_gtI ?_ | with_reducible refine y_geI ?_ | with_reducible refine y_eqI ?_ | with_reducible refine y_neI ?_ | with_reducible refine y_eqB ?_ | with_reducible refine y_neB ?_ | with_reducible refine y_eqS ?_ | with_reducible refine y_neS ?_ | with_reducible refine y_isN ?_ | with_reducible refine y_isnN ?_ | with_reducible refine y_wget ?_ | with_reducible refine And.intro (len_ok (by with_unfolding_all exact rfl)) ?_))
    refine y_lenS ?_
    (repeat (first | with_reducible refine w_seq ?_ | with_reducible refine w_set ?_ | with_reducible refine w_expr ?_ | with_reducible refine w_ret ?_ | with_reducible refine w_retN ?_ | with_reducible refine w_store ?_ | with_reducible refine w_nop ?_ | with_reducible refine w_for ?_ | with_reducible refine w_asg ?_ | with_reducible refine w_ct ?_ | with_reducible refine w_brk ?_ | with_reducible refine y_f2 ?_ | with_reducible refine y_C ?_ | with_reducible refine y_var (by with_unfolding_all exact rfl) ?_ | with_reducible refine y_f1 ?_ | with_reducible refine y_B ?_ | with_reducible refine y_unB ?_ | with_reducible refine y_ch ?_ | with_reducible refine y_tru ?_ | with_reducible refine y_tbl ?_ | with_reducible refine y_and ?_ | with_reducible refine y_or ?_ | with_reducible refine y_not ?_ | with_reducible refine y_andV ?_ | with_reducible refine y_notV ?_ | with_reducible refine y_nil ?_ | with_reducible refine y_cons ?_ | with_reducible refine y_tup ?_ | with_reducible refine y_lst ?_ | with_reducible refine y_val ?_ | with_reducible refine y_loc ?_ | with_reducible refine y_dval ?_ | with_reducible refine y_dloc ?_ | with_reducible refine y_ice ?_ | with_reducible refine y_oNone ?_ | with_reducible refine y_oSome ?_ | with_reducible refine y_sl ?_ | with_reducible refine y_A ?_ | with_reducible refine y_call ?_ | with_reducible refine y_M ?_ | with_reducible refine y_aComp ?_ | with_reducible refine y_rng1 ?_ | with_reducible refine y_over ?_ | with_reducible refine y_addI ?_ | with_reducible refine y_subI ?_ | with_reducible refine y_ltI ?_ | with_reducible refine y_leI ?_ | with_reducible refine y_gtI ?_ | with_reducible refine y_geI ?_ | with_reducible refine y_eqI ?_ | with_reducible refine y_neI ?_ | with_reducible refine y_eqB ?_ | with_reducible refine y_neB ?_ | with_reducible refine y_eqS ?_ | with_reducible refine y_neS ?_ | with_reducible refine y_isN ?_ | with_reducible refine y_isnN ?_ | with_reducible refine y_wget ?_ | with_reducible refine And.intro (len_ok (by with_unfolding_all exact rfl)) ?_))
    refine ⟨rfl, (draw t1 (by omega) (by first | decide | omega) (by first | decide | omega)).mono ?_⟩; rintro _ S2 ⟨r2, rfl, r20, r21, t2, l2, f2⟩
    refine y_ixW r20 r21 fun w hw _ => ?_
    (repeat (first | with_reducible refine w_seq ?_ | with_reducible refine w_set ?_ | with_reducible refine w_expr ?_ | with_reducible refine w_ret ?_ | with_reducible refine w_retN ?_ | with_reducible refine w_store ?_ | with_reducible refine w_nop ?_ | with_reducible refine w_for ?_ | with_reducible refine w_asg ?_ | with_reducible refine w_ct ?_ | with_reducible refine w_brk ?_ | with_reducible refine y_f2 ?_ | with_reducible refine y_C ?_ | with_reducible refine y_var (by with_unfolding_all exact rfl) ?_ | with_reducible refine y_f1 ?_ | with_reducible refine y_B ?_ | with_reducible refine y_unB ?_ | with_reducible refine y_ch ?_ | with_reducible refine y_tru ?_ | with_reducible refine y_tbl ?_ | with_reducible refine y_and ?_ | with_reducible refine y_or ?_ | with_reducible refine y_not ?_ | with_reducible refine y_andV ?_ | with_reducible refine y_notV ?_ | with_reducible refine y_nil ?_ | with_reducible refine y_cons ?_ | with_reducible refine y_tup ?_ | with_reducible refine y_lst ?_ | with_reducible refine y_val ?_ | with_reducible refine y_loc ?_ | with_reducible refine y_dval ?_ | with_reducible refine y_dloc ?_ | with_reducible refine y_ice ?_ | with_reducible refine y_oNone ?_ | with_reducible refine y_oSome ?_ | with_reducible refine y_sl ?_ | with_reducible refine y_A ?_ | with_reducible refine y_call ?_ | with_reducible refine y_M ?_ | with_reducible refine y_aComp ?_ | with_reducible refine y_rng1 ?_ | with_reducible refine y_over ?_ | with_reducible refine y_addI ?_ | with_reducible refine y_subI ?_ | with_reducible refine y_ltI ?_ | with_reducible refine y_leI ?_ | with_reducible refine y_gtI ?_ | with_reducible refine y_geI ?_ | with_reducible refine y_eqI ?_ | with_reducible refine y_neI ?_ | with_reducible refine y_eqB ?_ | with_reducible refine y_neB ?_ | with_reducible refine y_eqS ?_ | with_reducible refine y_neS ?_ | with_reducible refine y_isN ?_ | with_reducible refine y_isnN ?_ | with_reducible refine y_wget ?_ | with_reducible refine And.intro (len_ok (by with_unfolding_all exact rfl)) ?_))
    refine ⟨rfl, (draw t2 (by omega) (by first | decide | omega) (by first | decide | omega)).mono ?_⟩; rintro _ S3 ⟨r3, rfl, r30, r31, t3, l3, f3⟩
    (repeat (first | with_reducible refine w_seq ?_ | with_reducible refine w_set ?_ | with_reducible refine w_expr ?_ | with_reducible refine w_ret ?_ | with_reducible refine w_retN ?_ | with_reducible refine w_store ?_ | with_reducible refine w_nop ?_ | with_reducible refine w_for ?_ | with_reducible refine w_asg ?_ | with_reducible refine w_ct ?_ | with_reducible refine w_brk ?_ | with_reducible refine y_f2 ?_ | with_reducible refine y_C ?_ | with_reducible refine y_var (by with_unfolding_all exact rfl) ?_ | with_reducible refine y_f1 ?_ | with_reducible refine y_B ?_ | with_reducible refine y_unB ?_ | with_reducible refine y_ch ?_ | with_reducible refine y_tru ?_ | with_reducible refine y_tbl ?_ | with_reducible refine y_and ?_ | with_reducible refine y_or ?_ | with_reducible refine y_not ?_ | with_reducible refine y_andV ?_ | with_reducible refine y_notV ?_ | with_reducible refine y_nil ?_ | with_reducible refine y_cons ?_ | with_reducible refine y_tup ?_ | with_reducible refine y_lst ?_ | with_reducible refine y_val ?_ | with_reducible refine y_loc ?_ | with_reducible refine y_dval ?_ | with_reducible refine y_dloc ?_ | with_reducible refine y_ice ?_ | with_reducible refine y_oNone ?_ | with_reducible refine y_oSome ?_ | with_reducible refine y_sl ?_ | with_reducible refine y_A ?_ | with_reducible refine y_call ?_ | with_reducible refine y_M ?_ | with_reducible refine y_aComp ?_ | with_reducible refine y_rng1 ?_ | with_reducible refine y_over ?_ | with_reducible refine y_addI ?_ | with_reducible refine y_subI ?_ | with_reducible refine y_ltI ?_ | with_reducible refine y_leI ?_ | with_reducible refine y_gtI ?_ | with_reducible refine y_geI ?_ | with_reducible refine y_eqI ?_ | with_reducible refine y_neI ?_ | with_reducible refine y_eqB ?_ | with_reducible refine y_neB ?_ | with_reducible refine y_eqS ?_ | with_reducible refine y_neS ?_ | with_reducible refine y_isN ?_ | with_reducible refine y_isnN ?_ | with_reducible refine y_wget ?_ | with_reducible refine And.intro (len_ok (by with_unfolding_all exact rfl)) ?_))
    refine y_min ?_
    refine y_ixL (by split <;> omega) (show _ < (3 : Int) by split <;> omega) fun u hu _ => ?_
    have hf3 : S3[f]? = some (.lst [.int L]) := f3.get (f2.get hf1 (by simp; omega)) (by simp; omega)
    have f4 : Fr [n, f] S S3 := f1.trans ((f2.trans f3).more (by simp))
    have t4 : Tape n (b + cst d) S3 := t3.mono (by omega)
    simp only [List.mem_cons, List.mem_nil_iff, or_false] at hu
    rcases hu with rfl | rfl | rfl
    · exact ⟨.yes, L, rfl, trivial, Nat.le_max_right _ _, hf3, id, by show ((1 : Nat) : Int) + L ≤ 1 + L; omega, t4, f4⟩
    · exact ⟨.no, L, rfl, trivial, Nat.le_max_right _ _, hf3, id, by show ((1 : Nat) : Int) + L ≤ 1 + L; omega, t4, f4⟩
    · exact ⟨.name w, L, rfl, hw, Nat.le_max_right _ _, hf3, id, by show ((1 : Nat) : Int) + L ≤ 1 + L; omega, t4, f4⟩
  · obtain ⟨hL, hd, hr⟩ := hb1 rfl
    obtain ⟨e, rfl⟩ : ∃ e, d = e + 1 := ⟨d - 1, by omega⟩
    have hrec := @hrec e rfl
    have he : ((e + 1 : Nat) : Int) - 1 = (e : Int) := by omega
    have hcs : cst (e + 1) = 90 + 2 * cst e := rfl
    have hce := cst_pos e
    (repeat (first | with_reducible refine w_seq ?_ | with_reducible refine w_set ?_ | with_reducible refine w_expr ?_ | with_reducible refine w_ret ?_ | with_reducible refine w_retN ?_ | with_reducible refine w_store ?_ | with_reducible refine w_nop ?_ | with_reducible refine w_for ?_ | with_reducible refine w_asg ?_ | with_reducible refine w_ct ?_ | with_reducible refine w_brk ?_ | with_reducible refine y_f2 ?_ | with_reducible refine y_C ?_ | with_reducible refine y_var (by with_unfolding_all exact rfl) ?_ | with_reducible refine y_f1 ?_ | with_reducible refine y_B ?_ | with_reducible refine y_unB ?_ | with_reducible refine y_ch ?_ | with_reducible refine y_tru ?_ | with_reducible refine y_tbl ?_ | with_reducible refine y_and ?_ | with_reducible refine y_or ?_ | with_reducible refine y_not ?_ | with_reducible refine y_andV ?_ | with_reducible refine y_notV ?_ | with_reducible refine y_nil ?_ | with_reducible refine y_cons ?_ | with_reducible refine y_tup ?_ | with_reducible refine y_lst ?_ | with_reducible refine y_val ?_ | with_reducible refine y_loc ?_ | with_reducible refine y_dval ?_ | with_reducible refine y_dloc ?_ | with_reducible refine y_ice ?_ | with_reducible refine y_oNone ?_ | with_reducible refine y_oSome ?_ | with_reducible refine y_sl ?_ | with_reducible refine y_A ?_ | with_reducible refine y_call ?_ | with_reducible refine y_M ?_ | with_reducible refine y_aComp ?_ | with_reducible refine y_rng1 ?_ | with_reducible refine y_over ?_ | with_reducible refine y_addI ?_ | with_reducible refine y_subI ?_ | with_reducible refine y_ltI ?_ | with_reducible refine y_leI ?_ | with_reducible refine y_gtI ?_ | with_reducible refine y_geI ?_ | with_reducible refine y_eqI ?_ | with_reducible refine y_neI ?_ | with_reducible refine y_eqB ?_ | with_reducible refine y_neB ?_ | with_reducible refine y_eqS ?_ | with_reducible refine y_neS ?_ | with_reducible refine y_isN ?_ | with_reducible refine y_isnN ?_ | with_reducible refine y_wget ?_ | with_reducible refine And.intro (len_ok (by with_unfolding_all exact rfl)) ?_))
    refine y_ix (ix_first hf1) ?_
    (repeat (first | with_reducible refine w_seq ?_ | with_reducible refine w_set ?_ | with_reducible refine w_expr ?_ | with_reducible refine w_ret ?_ | with_reducible refine w_retN ?_ | with_reducible refine w_store ?_ | with_reducible refine w_nop ?_ | with_reducible refine w_for ?_ | with_reducible refine w_asg ?_ | with_reducible refine w_ct ?_ | with_reducible refine w_brk ?_ | with_reducible refine y_f2 ?_ | with_reducible refine y_C ?_ | with_reducible refine y_var (by with_unfolding_all exact rfl) ?_ | with_reducible refine y_f1 ?_ | with_reducible refine y_B ?_ | with_reducible refine y_unB ?_ | with_reducible refine y_ch ?_ | with_reducible refine y_tru ?_ | with_reducible refine y_tbl ?_ | with_reducible refine y_and ?_ | with_reducible refine y_or ?_ | with_reducible refine y_not ?_ | with_reducible refine y_andV ?_ | with_reducible refine y_notV ?_ | with_reducible refine y_nil ?_ | with_reducible refine y_cons ?_ | with_reducible refine y_tup ?_ | with_reducible refine y_lst ?_ | with_reducible refine y_val ?_ | with_reducible refine y_loc ?_ | with_reducible refine y_dval ?_ | with_reducible refine y_dloc ?_ | with_reducible refine y_ice ?_ | with_reducible refine y_oNone ?_ | with_reducible refine y_oSome ?_ | with_reducible refine y_sl ?_ | with_reducible refine y_A ?_ | with_reducible refine y_call ?_ | with_reducible refine y_M ?_ | with_reducible refine y_aComp ?_ | with_reducible refine y_rng1 ?_ | with_reducible refine y_over ?_ | with_reducible refine y_addI ?_ | with_reducible refine y_subI ?_ | with_reducible refine y_ltI ?_ | with_reducible refine y_leI ?_ | with_reducible refine y_gtI ?_ | with_reducible refine y_geI ?_ | with_reducible refine y_eqI ?_ | with_reducible refine y_neI ?_ | with_reducible refine y_eqB ?_ | with_reducible refine y_neB ?_ | with_reducible refine y_eqS ?_ | with_reducible refine y_neS ?_ | with_reducible refine y_isN ?_ | with_reducible refine y_isnN ?_ | with_reducible refine y_wget ?_ | with_reducible refine And.intro (len_ok (by with_unfolding_all exact rfl)) ?_))
    refine y_intB ?_
    (repeat (first | with_reducible refine w_seq ?_ | with_reducible refine w_set ?_ | with_reducible refine w_expr ?_ | with_reducible refine w_ret ?_ | with_reducible refine w_retN ?_ | with_reducible refine w_store ?_ | with_reducible refine w_nop ?_ | with_reducible refine w_for ?_ | with_reducible refine w_asg ?_ | with_reducible refine w_ct ?_ | with_reducible refine w_brk ?_ | with_reducible refine y_f2 ?_ | with_reducible refine y_C ?_ | with_reducible refine y_var (by with_unfolding_all exact rfl) ?_ | with_reducible refine y_f1 ?_ | with_reducible refine y_B ?_ | with_reducible refine y_unB ?_ | with_reducible refine y_ch ?_ | with_reducible refine y_tru ?_ | with_reducible refine y_tbl ?_ | with_reducible refine y_and ?_ | with_reducible refine y_or ?_ | with_reducible refine y_not ?_ | with_reducible refine y_andV ?_ | with_reducible refine y_notV ?_ | with_reducible refine y_nil ?_ | with_reducible refine y_cons ?_ | with_reducible refine y_tup ?_ | with_reducible refine y_lst ?_ | with_reducible refine y_val ?_ | with_reducible refine y_loc ?_ | with_reducible refine y_dval ?_ | with_reducible refine y_dloc ?_ | with_reducible refine y_ice ?_ | with_reducible refine y_oNone ?_ | with_reducible refine y_oSome ?_ | with_reducible refine y_sl ?_ | with_reducible refine y_A ?_ | with_reducible refine y_call ?_ | with_reducible refine y_M ?_ | with_reducible refine y_aComp ?_ | with_reducible refine y_rng1 ?_ | with_reducible refine y_over ?_ | with_reducible refine y_addI ?_ | with_reducible refine y_subI ?_ | with_reducible refine y_ltI ?_ | with_reducible refine y_leI ?_ | with_reducible refine y_gtI ?_ | with_reducible refine y_geI ?_ | with_reducible refine y_eqI ?_ | with_reducible refine y_neI ?_ | with_reducible refine y_eqB ?_ | with_reducible refine y_neB ?_ | with_reducible refine y_eqS ?_ | with_reducible refine y_neS ?_ | with_reducible refine y_isN ?_ | with_reducible refine y_isnN ?_ | with_reducible refine y_wget ?_ | with_reducible refine And.intro (len_ok (by with_unfolding_all exact rfl)) ?_))
    refine ⟨_, st_first hf1, ?_⟩
    have hn1 : f < S1.length := (List.getElem?_eq_some_iff.mp hf1).1
    have hv1 : r1 = 3 → (L - 1 - if decide ((3 : Int) < r1) = true then 1 else 0) = L - 1 := fun h => by rw [if_neg (by rw [decide_eq_true_eq]; omega)]; omega
    have hv2 : 3 < r1 → (L - 1 - if decide ((3 : Int) < r1) = true then 1 else 0) = L - 2 := fun h => by rw [if_pos (by rw [decide_eq_true_eq]; omega)]; omega
    generalize (L - 1 - if decide ((3 : Int) < r1) = true then 1 else 0) = v at hv1 hv2 ⊢
    have hf2 : (S1.set f (.lst [.int v]))[f]? = some (.lst [.int v]) := List.getElem?_set_self hn1
    have t2 : Tape n (b + 30) (S1.set f (.lst [.int v])) := t1.fr (ms := [f]) (Fr.set (by simp)) (by simp; omega)
    have f2 : Fr [n, f] S (S1.set f (.lst [.int v])) := f1.trans (Fr.set (by simp))
    generalize S1.set f (.lst [.int v]) = S2 at hf2 t2 f2 ⊢
    (repeat (first | with_reducible refine w_seq ?_ | with_reducible refine w_set ?_ | with_reducible refine w_expr ?_ | with_reducible refine w_ret ?_ | with_reducible refine w_retN ?_ | with_reducible refine w_store ?_ | with_reducible refine w_nop ?_ | with_reducible refine w_for ?_ | with_reducible refine w_asg ?_ | with_reducible refine w_ct ?_ | with_reducible refine w_brk ?_ | with_reducible refine y_f2 ?_ | with_reducible refine y_C ?_ | with_reducible refine y_var (by with_unfolding_all exact rfl) ?_ | with_reducible refine y_f1 ?_ | with_reducible refine y_B ?_ | with_reducible refine y_unB ?_ | with_reducible refine y_ch ?_ | with_reducible refine y_tru ?_ | with_reducible refine y_tbl ?_ | with_reducible refine y_and ?_ | with_reducible refine y_or ?_ | with_reducible refine y_not ?_ | with_reducible refine y_andV ?_ | with_reducible refine y_notV ?_ | with_reducible refine y_nil ?_ | with_reducible refine y_cons ?_ | with_reducible refine y_tup ?_ | with_reducible refine y_lst ?_ | with_reducible refine y_val ?_ | with_reducible refine y_loc ?_ | with_reducible refine y_dval ?_ | with_reducible refine y_dloc ?_ | with_reducible refine y_ice ?_ | with_reducible refine y_oNone ?_ | with_reducible refine y_oSome ?_ | with_reducible refine y_sl ?_ | with_reducible refine y_A ?_ | with_reducible refine y_call ?_ | with_reducible refine y_M ?_ | with_reducible refine y_aComp ?_ | with_reducible refine y_rng1 ?_ | with_reducible refine y_over ?_ | with_reducible refine y_addI ?_ | with_reducible refine y_subI ?_ | with_reducible refine y_ltI ?_ | with_reducible refine y_leI ?_ | with_reducible refine y_gtI ?_ | with_reducible refine y_geI ?_ | with_reducible refine y_eqI ?_ | with_reducible refine y_neI ?_ | with_reducible refine y_eqB ?_ | with_reducible refine y_neB ?_ | with_reducible refine y_eqS ?_ | with_reducible refine y_neS ?_ | with_reducible refine y_isN ?_ | with_reducible refine y_isnN ?_ | with_reducible refine y_wget ?_ | with_reducible refine And.intro (len_ok (by with_unfolding_all exact rfl)) ?_))
    refine w_if ?_
    (repeat (first | with_reducible refine w_seq ?_ | with_reducible refine w_set ?_ | with_reducible refine w_expr ?_ | with_reducible refine w_ret ?_ | with_reducible refine w_retN ?_ | with_reducible refine w_store ?_ | with_reducible refine w_nop ?_ | with_reducible refine w_for ?_ | with_reducible refine w_asg ?_ | with_reducible refine w_ct ?_ | with_reducible refine w_brk ?_ | with_reducible refine y_f2 ?_ | with_reducible refine y_C ?_ | with_reducible refine y_var (by with_unfolding_all exact rfl) ?_ | with_reducible refine y_f1 ?_ | with_reducible refine y_B ?_ | with_reducible refine y_unB ?_ | with_reducible refine y_ch ?_ | with_reducible refine y_tru ?_ | with_reducible refine y_tbl ?_ | with_reducible refine y_and ?_ | with_reducible refine y_or ?_ | with_reducible refine y_not ?_ | with_reducible refine y_andV ?_ | with_reducible refine y_notV ?_ | with_reducible refine y_nil ?_ | with_reducible refine y_cons ?_ | with_reducible refine y_tup ?_ | with_reducible refine y_lst ?_ | with_reducible refine y_val ?_ | with_reducible refine y_loc ?_ | with_reducible refine y_dval ?_ | with_reducible refine y_dloc ?_ | with_reducible refine y_ice ?_ | with_reducible refine y_oNone ?_ | with_reducible refine y_oSome ?_ | with_reducible refine y_sl ?_ | with_reducible refine y_A ?_ | with_reducible refine y_call ?_ | with_reducible refine y_M ?_ | with_reducible refine y_aComp ?_ | with_reducible refine y_rng1 ?_ | with_reducible refine y_over ?_ | with_reducible refine y_addI ?_ | with_reducible refine y_subI ?_ | with_reducible refine y_ltI ?_ | with_reducible refine y_leI ?_ | with_reducible refine y_gtI ?_ | with_reducible refine y_geI ?_ | with_reducible refine y_eqI ?_ | with_reducible refine y_neI ?_ | with_reducible refine y_eqB ?_ | with_reducible refine y_neB ?_ | with_reducible refine y_eqS ?_ | with_reducible refine y_neS ?_ | with_reducible refine y_isN ?_ | with_reducible refine y_isnN ?_ | with_reducible refine y_wget ?_ | with_reducible refine And.intro (len_ok (by with_unfolding_all exact rfl)) ?_))
    refine ite_b (fun c1 => ?_) (fun c1 => ?_)
    · have c1 := of_decide_eq_true c1
      have hv := hv1 c1
      (repeat (first | with_reducible refine w_seq ?_ | with_reducible refine w_set ?_ | with_reducible refine w_expr ?_ | with_reducible refine w_ret ?_ | with_reducible refine w_retN ?_ | with_reducible refine w_store ?_ | with_reducible refine w_nop ?_ | with_reducible refine w_for ?_ | with_reducible refine w_asg ?_ | with_reducible refine w_ct ?_ | with_reducible refine w_brk ?_ | with_reducible refine y_f2 ?_ | with_reducible refine y_C ?_ | with_reducible refine y_var (by with_unfolding_all exact rfl) ?_ | with_reducible refine y_f1 ?_ | with_reducible refine y_B ?_ | with_reducible refine y_unB ?_ | with_reducible refine y_ch ?_ | with_reducible refine y_tru ?_ | with_reducible refine y_tbl ?_ | with_reducible refine y_and ?_ | with_reducible refine y_or ?_ | with_reducible refine y_not ?_ | with_reducible refine y_andV ?_ | with_reducible refine y_notV ?_ | with_reducible refine y_nil ?_ | with_reducible refine y_cons ?_ | with_reducible refine y_tup ?_ | with_reducible refine y_lst ?_ | with_reducible refine y_val ?_ | with_reducible refine y_loc ?_ | with_reducible refine y_dval ?_ | with_reducible refine y_dloc ?_ | with_reducible refine y_ice ?_ | with_reducible refine y_oNone ?_ | with_reducible refine y_oSome ?_ | with_reducible refine y_sl ?_ | with_reducible refine y_A ?_ | with_reducible refine y_call ?_ | with_reducible refine y_M ?_ | with_reducible refine y_aComp ?_ | with_reducible refine y_rng1 ?_ | with_reducible refine y_over ?_ | with_reducible refine y_addI ?_ | with_reducible refine y_subI ?_ | with_reducible refine y_ltI ?_ | with_reducible refine y_leI ?_ | with_reducible refine y_gtI ?_ | with_reducible refine y_geI ?_ | with_reducible refine y_eqI ?_ | with_reducible refine y_neI ?_ | with_reducible refine y_eqB ?_ | with_reducible refine y_neB ?_ | with_reducible refine y_eqS ?_ | with_reducible refine y_neS ?_ | with_reducible refine y_isN ?_ | with_reducible refine y_isnN ?_ | with_reducible refine y_wget ?_ | with_reducible refine And.intro (len_ok (by with_unfolding_all exact rfl)) ?_))
      refine ⟨rfl, ?_⟩
      rw [he]
      refine (hrec t2 (by omega) hf2).mono ?_
      rintro _ S3 ⟨x, L', rfl, hx, hxd, hf3, hL3, hp3, t3, f3⟩
      (repeat (first | with_reducible refine w_seq ?_ | with_reducible refine w_set ?_ | with_reducible refine w_expr ?_ | with_reducible refine w_ret ?_ | with_reducible refine w_retN ?_ | with_reducible refine w_store ?_ | with_reducible refine w_nop ?_ | with_reducible refine w_for ?_ | with_reducible refine w_asg ?_ | with_reducible refine w_ct ?_ | with_reducible refine w_brk ?_ | with_reducible refine y_f2 ?_ | with_reducible refine y_C ?_ | with_reducible refine y_var (by with_unfolding_all exact rfl) ?_ | with_reducible refine y_f1 ?_ | with_reducible refine y_B ?_ | with_reducible refine y_unB ?_ | with_reducible refine y_ch ?_ | with_reducible refine y_tru ?_ | with_reducible refine y_tbl ?_ | with_reducible refine y_and ?_ | with_reducible refine y_or ?_ | with_reducible refine y_not ?_ | with_reducible refine y_andV ?_ | with_reducible refine y_notV ?_ | with_reducible refine y_nil ?_ | with_reducible refine y_cons ?_ | with_reducible refine y_tup ?_ | with_reducible refine y_lst ?_ | with_reducible refine y_val ?_ | with_reducible refine y_loc ?_ | with_reducible refine y_dval ?_ | with_reducible refine y_dloc ?_ | with_reducible refine y_ice ?_ | with_reducible refine y_oNone ?_ | with_reducible refine y_oSome ?_ | with_reducible refine y_sl ?_ | with_reducible refine y_A ?_ | with_reducible refine y_call ?_ | with_reducible refine y_M ?_ | with_reducible refine y_aComp ?_ | with_reducible refine y_rng1 ?_ | with_reducible refine y_over ?_ | with_reducible refine y_addI ?_ | with_reducible refine y_subI ?_ | with_reducible refine y_ltI ?_ | with_reducible refine y_leI ?_ | with_reducible refine y_gtI ?_ | with_reducible refine y_geI ?_ | with_reducible refine y_eqI ?_ | with_reducible refine y_neI ?_ | with_reducible refine y_eqB ?_ | with_reducible refine y_neB ?_ | with_reducible refine y_eqS ?_ | with_reducible refine y_neS ?_ | with_reducible refine y_isN ?_ | with_reducible refine y_isnN ?_ | with_reducible refine y_wget ?_ | with_reducible refine And.intro (len_ok (by with_unfolding_all exact rfl)) ?_))
      exact ⟨.neg x, L', rfl, hx, by show x.deep + 1 ≤ _; omega, hf3, fun _ => hL3 (by omega), by show ((x.parts + 1 : Nat) : Int) + L' ≤ _; omega, t3.mono (by omega), f2.trans f3⟩
    · have c1 := of_decide_eq_false c1
      have hv := hv2 (by omega)
      (repeat (first | with_reducible refine w_seq ?_ | with_reducible refine w_set ?_ | with_reducible refine w_expr ?_ | with_reducible refine w_ret ?_ | with_reducible refine w_retN ?_ | with_reducible refine w_store ?_ | with_reducible refine w_nop ?_ | with_reducible refine w_for ?_ | with_reducible refine w_asg ?_ | with_reducible refine w_ct ?_ | with_reducible refine w_brk ?_ | with_reducible refine y_f2 ?_ | with_reducible refine y_C ?_ | with_reducible refine y_var (by with_unfolding_all exact rfl) ?_ | with_reducible refine y_f1 ?_ | with_reducible refine y_B ?_ | with_reducible refine y_unB ?_ | with_reducible refine y_ch ?_ | with_reducible refine y_tru ?_ | with_reducible refine y_tbl ?_ | with_reducible refine y_and ?_ | with_reducible refine y_or ?_ | with_reducible refine y_not ?_ | with_reducible refine y_andV ?_ | with_reducible refine y_notV ?_ | with_reducible refine y_nil ?_ | with_reducible refine y_cons ?_ | with_reducible refine y_tup ?_ | with_reducible refine y_lst ?_ | with_reducible refine y_val ?_ | with_reducible refine y_loc ?_ | with_reducible refine y_dval ?_ | with_reducible refine y_dloc ?_ | with_reducible refine y_ice ?_ | with_reducible refine y_oNone ?_ | with_reducible refine y_oSome ?_ | with_reducible refine y_sl ?_ | with_reducible refine y_A ?_ | with_reducible refine y_call ?_ | with_reducible refine y_M ?_ | with_reducible refine y_aComp ?_ | with_reducible refine y_rng1 ?_ | with_reducible refine y_over ?_ | with_reducible refine y_addI ?_ | with_reducible refine y_subI ?_ | with_reducible refine y_ltI ?_ | with_reducible refine y_leI ?_ | with_reducible refine y_gtI ?_ | with_reducible refine y_geI ?_ | with_reducible refine y_eqI ?_ | with_reducible refine y_neI ?_ | with_reducible refine y_eqB ?_ | with_reducible refine y_neB ?_ | with_reducible refine y_eqS ?_ | with_reducible refine y_neS ?_ | with_reducible refine y_isN ?_ | with_reducible refine y_isnN ?_ | with_reducible refine y_wget ?_ | with_reducible refine And.intro (len_ok (by with_unfolding_all exact rfl)) ?_))
      refine y_ixL (by omega) (show r1 - 4 < (6 : Int) by omega) fun u hu _ => ?_
      obtain ⟨o, rfl⟩ : ∃ o : Op, u = .str o.s := by
        simp only [List.mem_cons, List.mem_nil_iff, or_false] at hu
        rcases hu with rfl | rfl | rfl | rfl | rfl | rfl
        · exact ⟨.and, rfl⟩
        · exact ⟨.or, rfl⟩
        · exact ⟨.gives, rfl⟩
        · exact ⟨.same, rfl⟩
        · exact ⟨.and, rfl⟩
        · exact ⟨.or, rfl⟩
      (repeat (first | with_reducible refine w_seq ?_ | with_reducible refine w_set ?_ | with_reducible refine w_expr ?_ | with_reducible refine w_ret ?_ | with_reducible refine w_retN ?_ | with_reducible refine w_store ?_ | with_reducible refine w_nop ?_ | with_reducible refine w_for ?_ | with_reducible refine w_asg ?_ | with_reducible refine w_ct ?_ | with_reducible refine w_brk ?_ | with_reducible refine y_f2 ?_ | with_reducible refine y_C ?_ | with_reducible refine y_var (by with_unfolding_all exact rfl) ?_ | with_reducible refine y_f1 ?_ | with_reducible refine y_B ?_ | with_reducible refine y_unB ?_ | with_reducible refine y_ch ?_ | with_reducible refine y_tru ?_ | with_reducible refine y_tbl ?_ | with_reducible refine y_and ?_ | with_reducible refine y_or ?_ | with_reducible refine y_not ?_ | with_reducible refine y_andV ?_ | with_reducible refine y_notV ?_ | with_reducible refine y_nil ?_ | with_reducible refine y_cons ?_ | with_reducible refine y_tup ?_ | with_reducible refine y_lst ?_ | with_reducible refine y_val ?_ | with_reducible refine y_loc ?_ | with_reducible refine y_dval ?_ | with_reducible refine y_dloc ?_ | with_reducible refine y_ice ?_ | with_reducible refine y_oNone ?_ | with_reducible refine y_oSome ?_ | with_reducible refine y_sl ?_ | with_reducible refine y_A ?_ | with_reducible refine y_call ?_ | with_reducible refine y_M ?_ | with_reducible refine y_aComp ?_ | with_reducible refine y_rng1 ?_ | with_reducible refine y_over ?_ | with_reducible refine y_addI ?_ | with_reducible refine y_subI ?_ | with_reducible refine y_ltI ?_ | with_reducible refine y_leI ?_ | with_reducible refine y_gtI ?_ | with_reducible refine y_geI ?_ | with_reducible refine y_eqI ?_ | with_reducible refine y_neI ?_ | with_reducible refine y_eqB ?_ | with_reducible refine y_neB ?_ | with_reducible refine y_eqS ?_ | with_reducible refine y_neS ?_ | with_reducible refine y_isN ?_ | with_reducible refine y_isnN ?_ | with_reducible refine y_wget ?_ | with_reducible refine And.intro (len_ok (by with_unfolding_all exact rfl)) ?_))
      refine ⟨rfl, ?_⟩
      rw [he]
      refine (hrec t2 (by omega) hf2).mono ?_
      rintro _ S3 ⟨x, L3, rfl, hx, hxd, hf3, hL3, hp3, t3, f3⟩
      (repeat (first | with_reducible refine w_seq ?_ | with_reducible refine w_set ?_ | with_reducible refine w_expr ?_ | with_reducible refine w_ret ?_ | with_reducible refine w_retN ?_ | with_reducible refine w_store ?_ | with_reducible refine w_nop ?_ | with_reducible refine w_for ?_ | with_reducible refine w_asg ?_ | with_reducible refine w_ct ?_ | with_reducible refine w_brk ?_ | with_reducible refine y_f2 ?_ | with_reducible refine y_C ?_ | with_reducible refine y_var (by with_unfolding_all exact rfl) ?_ | with_reducible refine y_f1 ?_ | with_reducible refine y_B ?_ | with_reducible refine y_unB ?_ | with_reducible refine y_ch ?_ | with_reducible refine y_tru ?_ | with_reducible refine y_tbl ?_ | with_reducible refine y_and ?_ | with_reducible refine y_or ?_ | with_reducible refine y_not ?_ | with_reducible refine y_andV ?_ | with_reducible refine y_notV ?_ | with_reducible refine y_nil ?_ | with_reducible refine y_cons ?_ | with_reducible refine y_tup ?_ | with_reducible refine y_lst ?_ | with_reducible refine y_val ?_ | with_reducible refine y_loc ?_ | with_reducible refine y_dval ?_ | with_reducible refine y_dloc ?_ | with_reducible refine y_ice ?_ | with_reducible refine y_oNone ?_ | with_reducible refine y_oSome ?_ | with_reducible refine y_sl ?_ | with_reducible refine y_A ?_ | with_reducible refine y_call ?_ | with_reducible refine y_M ?_ | with_reducible refine y_aComp ?_ | with_reducible refine y_rng1 ?_ | with_reducible refine y_over ?_ | with_reducible refine y_addI ?_ | with_reducible refine y_subI ?_ | with_reducible refine y_ltI ?_ | with_reducible refine y_leI ?_ | with_reducible refine y_gtI ?_ | with_reducible refine y_geI ?_ | with_reducible refine y_eqI ?_ | with_reducible refine y_neI ?_ | with_reducible refine y_eqB ?_ | with_reducible refine y_neB ?_ | with_reducible refine y_eqS ?_ | with_reducible refine y_neS ?_ | with_reducible refine y_isN ?_ | with_reducible refine y_isnN ?_ | with_reducible refine y_wget ?_ | with_reducible refine And.intro (len_ok (by with_unfolding_all exact rfl)) ?_))
      refine ⟨rfl, ?_⟩
      rw [he]
      refine (hrec t3 (by omega) hf3).mono ?_
      rintro _ S4 ⟨y, L4, rfl, hy, hyd, hf4, hL4, hp4, t4, f4⟩
      (repeat (first | with_reducible refine w_seq ?_ | with_reducible refine w_set ?_ | with_reducible refine w_expr ?_ | with_reducible refine w_ret ?_ | with_reducible refine w_retN ?_ | with_reducible refine w_store ?_ | with_reducible refine w_nop ?_ | with_reducible refine w_for ?_ | with_reducible refine w_asg ?_ | with_reducible refine w_ct ?_ | with_reducible refine w_brk ?_ | with_reducible refine y_f2 ?_ | with_reducible refine y_C ?_ | with_reducible refine y_var (by with_unfolding_all exact rfl) ?_ | with_reducible refine y_f1 ?_ | with_reducible refine y_B ?_ | with_reducible refine y_unB ?_ | with_reducible refine y_ch ?_ | with_reducible refine y_tru ?_ | with_reducible refine y_tbl ?_ | with_reducible refine y_and ?_ | with_reducible refine y_or ?_ | with_reducible refine y_not ?_ | with_reducible refine y_andV ?_ | with_reducible refine y_notV ?_ | with_reducible refine y_nil ?_ | with_reducible refine y_cons ?_ | with_reducible refine y_tup ?_ | with_reducible refine y_lst ?_ | with_reducible refine y_val ?_ | with_reducible refine y_loc ?_ | with_reducible refine y_dval ?_ | with_reducible refine y_dloc ?_ | with_reducible refine y_ice ?_ | with_reducible refine y_oNone ?_ | with_reducible refine y_oSome ?_ | with_reducible refine y_sl ?_ | with_reducible refine y_A ?_ | with_reducible refine y_call ?_ | with_reducible refine y_M ?_ | with_reducible refine y_aComp ?_ | with_reducible refine y_rng1 ?_ | with_reducible refine y_over ?_ | with_reducible refine y_addI ?_ | with_reducible refine y_subI ?_ | with_reducible refine y_ltI ?_ | with_reducible refine y_leI ?_ | with_reducible refine y_gtI ?_ | with_reducible refine y_geI ?_ | with_reducible refine y_eqI ?_ | with_reducible refine y_neI ?_ | with_reducible refine y_eqB ?_ | with_reducible refine y_neB ?_ | with_reducible refine y_eqS ?_ | with_reducible refine y_neS ?_ | with_reducible refine y_isN ?_ | with_reducible refine y_isnN ?_ | with_reducible refine y_wget ?_ | with_reducible refine And.intro (len_ok (by with_unfolding_all exact rfl)) ?_))
      exact ⟨.bin o x y, L4, rfl, ⟨hx, hy⟩, by show max x.deep y.deep + 1 ≤ _; omega, hf4, fun _ => hL4 (hL3 (by omega)), by show ((x.parts + y.parts + 1 : Nat) : Int) + L4 ≤ _; omega, t4.mono (by omega), f2.trans (f3.trans f4)⟩
theorem saying {n f : Nat} {ws : List Str} (hnf : n ≠ f) (hw0 : 1 ≤ ws.length) (hw1 : ws.length ≤ 1000) : ∀ (d k : Nat) {b L : Int} {S : Sto}, Tape n b S → b + cst d ≤ 2 ^ 100 → S[f]? = some (.lst [.int L]) →
    Y (call (d + k + 2) i_law_saying [.loc n, .lst (ws.map .str), .loc f, .int d] S) (SaidP n f ws b L d S)
  | 0, k, b, L, S, t, hb, hf => say_step hnf hw0 hw1 0 (0 + k) t hb hf fun e he => by cases he
  | d + 1, k, b, L, S, t, hb, hf => by
    have := say_step hnf hw0 hw1 (d + 1) (d + k + 1) t hb hf fun e he b L S t hb hf => by
      cases he
      exact saying hnf hw0 hw1 d k t hb hf
    rw [show d + 1 + k + 2 = d + k + 1 + 2 from by omega]
    exact this

end Law

set_option Elab.async false
set_option linter.all false
set_option maxRecDepth 100000
set_option maxHeartbeats 2000000
namespace Law
open PySem PySem.Spec L2 DL
/-! ### other things -/
theorem other {k n : Nat} {b : Int} {x : U} {S : Sto} (t0 : Tape n b S) (hb : b + 60 ≤ 2 ^ 100) :
    Y (call (k + 2) i_law_other [.loc n, x] S) fun u S' => Pl 4 3 u ∧ Tape n (b + 60) S' ∧ Fr [n] S S' := by
  refine y_run ?_
  show WS (b_law_other (call (k + 1)) [some (.loc n), some x, none, none] S) _
  unfold b_law_other
  (repeat (first | with_reducible refine w_seq ?_ | with_reducible refine w_set ?_ | with_reducible refine w_expr ?_ | with_reducible refine w_ret ?_ | with_reducible refine w_retN ?_ | with_reducible refine w_store ?_ | with_reducible refine w_nop ?_ | with_reducible refine w_for ?_ | with_reducible refine w_asg ?_ | with_reducible refine w_ct ?_ | with_reducible refine w_brk ?_ | with_reducible refine y_f2 ?_ | with_reducible refine y_C ?_ | with_reducible refine y_var (by with_unfolding_all exact rfl) ?_ | with_reducible refine y_f1 ?_ | with_reducible refine y_B ?_ | with_reducible refine y_unB ?_ | with_reducible refine y_ch ?_ | with_reducible refine y_tru ?_ | with_reducible refine y_tbl ?_ | with_reducible refine y_and ?_ | with_reducible refine y_or ?_ | with_reducible refine y_not ?_ | with_reducible refine y_andV ?_ | with_reducible refine y_notV ?_ | with_reducible refine y_nil ?_ | with_reducible refine y_cons ?_ | with_reducible refine y_tup ?_ | with_reducible refine y_lst ?_ | with_reducible refine y_val ?_ | with_reducible refine y_loc ?_ | with_reducible refine y_dval ?_ | with_reducible refine y_dloc ?_ | with_reducible refine y_ice ?_ | with_reducible refine y_oNone ?_ | with_reducible refine y_oSome ?_ | with_reducible refine y_sl ?_ | with_reducible refine y_A ?_ | with_reducible refine y_call ?_ | with_reducible refine y_M ?_ | with_reducible refine y_aComp ?_ | with_reducible refine y_rng1 ?_ | with_reducible refine y_over ?_ | with_reducible refine y_addI ?_ | with_reducible refine y_subI ?_ | with_reducible refine y_ltI ?_ | with_reducible refine y_leI ?_ | with_reducible refine y_gtI ?_ | with_reducible refine y_geI ?_ | with_reducible refine y_eqI ?_ | with_reducible refine y_neI ?_ | with_reducible refine y_eqB ?_ | with_reducible refine y_neB ?_ | with_reducible refine y_eqS ?_ | with_reducible refine y_neS ?_ | with_reducible refine y_isN ?_ | with_reducible refine y_isnN ?_ | with_reducible refine y_wget ?_ | with_reducible refine And.intro (len_ok (by with_unfolding_all exact rfl)) ?_))
  refine y_addL (len_ok (by with_unfolding_all exact rfl)) ?_
  (repeat (first | with_reducible refine w_seq ?_ | with_reducible refine w_set ?_ | with_reducible refine w_expr ?_ | with_reducible refine w_ret ?_ | with_reducible refine w_retN ?_ | with_reducible refine w_store ?_ | with_reducible refine w_nop ?_ | with_reducible refine w_for ?_ | with_reducible refine w_asg ?_ | with_reducible refine w_ct ?_ | with_reducible refine w_brk ?_ | with_reducible refine y_f2 ?_ | with_reducible refine y_C ?_ | with_reducible refine y_var (by with_unfolding_all exact rfl) ?_ | with_reducible refine y_f1 ?_ | with_reducible refine y_B ?_ | with_reducible refine y_unB ?_ | with_reducible refine y_ch ?_ | with_reducible refine y_tru ?_ | with_reducible refine y_tbl ?_ | with_reducible refine y_and ?_ | with_reducible refine y_or ?_ | with_reducible refine y_not ?_ | with_reducible refine y_andV ?_ | with_reducible refine y_notV ?_ | with_reducible refine y_nil ?_ | with_reducible refine y_cons ?_ | with_reducible refine y_tup ?_ | with_reducible refine y_lst ?_ | with_reducible refine y_val ?_ | with_reducible refine y_loc ?_ | with_reducible refine y_dval ?_ | with_reducible refine y_dloc ?_ | with_reducible refine y_ice ?_ | with_reducible refine y_oNone ?_ | with_reducible refine y_oSome ?_ | with_reducible refine y_sl ?_ | with_reducible refine y_A ?_ | with_reducible refine y_call ?_ | with_reducible refine y_M ?_ | with_reducible refine y_aComp ?_ | with_reducible refine y_rng1 ?_ | with_reducible refine y_over ?_ | with_reducible refine y_addI ?_ | with_reducible refine y_subI ?_ | with_reducible refine y_ltI ?_ | with_reducible refine y_leI ?_ | with_reducible refine y_gtI ?_ | with_reducible refine y_geI ?_ | with_reducible refine y_eqI ?_ | with_reducible refine y_neI ?_ | with_reducible refine y_eqB ?_ | with_reducible refine y_neB ?_ | with_reducible refine y_eqS ?_ | with_reducible refine y_neS ?_ | with_reducible refine y_isN ?_ | with_reducible refine y_isnN ?_ | with_reducible refine y_wget ?_ | with_reducible refine And.intro (len_ok (by with_unfolding_all exact rfl)) ?_))
  refine ⟨rfl, (draw t0 (by omega) (by first | decide | omega) (by first | decide | omega)).mono ?_⟩; rintro _ S1 ⟨r1, rfl, r10, r11, t1, l1, f1⟩
  refine y_ixL r10 r11 fun own ho _ => ?_
  (repeat (first | with_reducible refine w_seq ?_ | with_reducible refine w_set ?_ | with_reducible refine w_expr ?_ | with_reducible refine w_ret ?_ | with_reducible refine w_retN ?_ | with_reducible refine w_store ?_ | with_reducible refine w_nop ?_ | with_reducible refine w_for ?_ | with_reducible refine w_asg ?_ | with_reducible refine w_ct ?_ | with_reducible refine w_brk ?_ | with_reducible refine y_f2 ?_ | with_reducible refine y_C ?_ | with_reducible refine y_var (by with_unfolding_all exact rfl) ?_ | with_reducible refine y_f1 ?_ | with_reducible refine y_B ?_ | with_reducible refine y_unB ?_ | with_reducible refine y_ch ?_ | with_reducible refine y_tru ?_ | with_reducible refine y_tbl ?_ | with_reducible refine y_and ?_ | with_reducible refine y_or ?_ | with_reducible refine y_not ?_ | with_reducible refine y_andV ?_ | with_reducible refine y_notV ?_ | with_reducible refine y_nil ?_ | with_reducible refine y_cons ?_ | with_reducible refine y_tup ?_ | with_reducible refine y_lst ?_ | with_reducible refine y_val ?_ | with_reducible refine y_loc ?_ | with_reducible refine y_dval ?_ | with_reducible refine y_dloc ?_ | with_reducible refine y_ice ?_ | with_reducible refine y_oNone ?_ | with_reducible refine y_oSome ?_ | with_reducible refine y_sl ?_ | with_reducible refine y_A ?_ | with_reducible refine y_call ?_ | with_reducible refine y_M ?_ | with_reducible refine y_aComp ?_ | with_reducible refine y_rng1 ?_ | with_reducible refine y_over ?_ | with_reducible refine y_addI ?_ | with_reducible refine y_subI ?_ | with_reducible refine y_ltI ?_ | with_reducible refine y_leI ?_ | with_reducible refine y_gtI ?_ | with_reducible refine y_geI ?_ | with_reducible refine y_eqI ?_ | with_reducible refine y_neI ?_ | with_reducible refine y_eqB ?_ | with_reducible refine y_neB ?_ | with_reducible refine y_eqS ?_ | with_reducible refine y_neS ?_ | with_reducible refine y_isN ?_ | with_reducible refine y_isnN ?_ | with_reducible refine y_wget ?_ | with_reducible refine And.intro (len_ok (by with_unfolding_all exact rfl)) ?_))
  refine y_addL (len_ok (by with_unfolding_all exact rfl)) ?_
  (repeat (first | with_reducible refine w_seq ?_ | with_reducible refine w_set ?_ | with_reducible refine w_expr ?_ | with_reducible refine w_ret ?_ | with_reducible refine w_retN ?_ | with_reducible refine w_store ?_ | with_reducible refine w_nop ?_ | with_reducible refine w_for ?_ | with_reducible refine w_asg ?_ | with_reducible refine w_ct ?_ | with_reducible refine w_brk ?_ | with_reducible refine y_f2 ?_ | with_reducible refine y_C ?_ | with_reducible refine y_var (by with_unfolding_all exact rfl) ?_ | with_reducible refine y_f1 ?_ | with_reducible refine y_B ?_ | with_reducible refine y_unB ?_ | with_reducible refine y_ch ?_ | with_reducible refine y_tru ?_ | with_reducible refine y_tbl ?_ | with_reducible refine y_and ?_ | with_reducible refine y_or ?_ | with_reducible refine y_not ?_ | with_reducible refine y_andV ?_ | with_reducible refine y_notV ?_ | with_reducible refine y_nil ?_ | with_reducible refine y_cons ?_ | with_reducible refine y_tup ?_ | with_reducible refine y_lst ?_ | with_reducible refine y_val ?_ | with_reducible refine y_loc ?_ | with_reducible refine y_dval ?_ | with_reducible refine y_dloc ?_ | with_reducible refine y_ice ?_ | with_reducible refine y_oNone ?_ | with_reducible refine y_oSome ?_ | with_reducible refine y_sl ?_ | with_reducible refine y_A ?_ | with_reducible refine y_call ?_ | with_reducible refine y_M ?_ | with_reducible refine y_aComp ?_ | with_reducible refine y_rng1 ?_ | with_reducible refine y_over ?_ | with_reducible refine y_addI ?_ | with_reducible refine y_subI ?_ | with_reducible refine y_ltI ?_ | with_reducible refine y_leI ?_ | with_reducible refine y_gtI ?_ | with_reducible refine y_geI ?_ | with_reducible refine y_eqI ?_ | with_reducible refine y_neI ?_ | with_reducible refine y_eqB ?_ | with_reducible refine y_neB ?_ | with_reducible refine y_eqS ?_ | with_reducible refine y_neS ?_ | with_reducible refine y_isN ?_ | with_reducible refine y_isnN ?_ | with_reducible refine y_wget ?_ | with_reducible refine And.intro (len_ok (by with_unfolding_all exact rfl)) ?_))
  refine y_addL (len_ok (by with_unfolding_all exact rfl)) ?_
  (repeat (first | with_reducible refine w_seq ?_ | with_reducible refine w_set ?_ | with_reducible refine w_expr ?_ | with_reducible refine w_ret ?_ | with_reducible refine w_retN ?_ | with_reducible refine w_store ?_ | with_reducible refine w_nop ?_ | with_reducible refine w_for ?_ | with_reducible refine w_asg ?_ | with_reducible refine w_ct ?_ | with_reducible refine w_brk ?_ | with_reducible refine y_f2 ?_ | with_reducible refine y_C ?_ | with_reducible refine y_var (by with_unfolding_all exact rfl) ?_ | with_reducible refine y_f1 ?_ | with_reducible refine y_B ?_ | with_reducible refine y_unB ?_ | with_reducible refine y_ch ?_ | with_reducible refine y_tru ?_ | with_reducible refine y_tbl ?_ | with_reducible refine y_and ?_ | with_reducible refine y_or ?_ | with_reducible refine y_not ?_ | with_reducible refine y_andV ?_ | with_reducible refine y_notV ?_ | with_reducible refine y_nil ?_ | with_reducible refine y_cons ?_ | with_reducible refine y_tup ?_ | with_reducible refine y_lst ?_ | with_reducible refine y_val ?_ | with_reducible refine y_loc ?_ | with_reducible refine y_dval ?_ | with_reducible refine y_dloc ?_ | with_reducible refine y_ice ?_ | with_reducible refine y_oNone ?_ | with_reducible refine y_oSome ?_ | with_reducible refine y_sl ?_ | with_reducible refine y_A ?_ | with_reducible refine y_call ?_ | with_reducible refine y_M ?_ | with_reducible refine y_aComp ?_ | with_reducible refine y_rng1 ?_ | with_reducible refine y_over ?_ | with_reducible refine y_addI ?_ | with_reducible refine y_subI ?_ | with_reducible refine y_ltI ?_ | with_reducible refine y_leI ?_ | with_reducible refine y_gtI ?_ | with_reducible refine y_geI ?_ | with_reducible refine y_eqI ?_ | with_reducible refine y_neI ?_ | with_reducible refine y_eqB ?_ | with_reducible refine y_neB ?_ | with_reducible refine y_eqS ?_ | with_reducible refine y_neS ?_ | with_reducible refine y_isN ?_ | with_reducible refine y_isnN ?_ | with_reducible refine y_wget ?_ | with_reducible refine And.intro (len_ok (by with_unfolding_all exact rfl)) ?_))
  refine y_lenK 31 rfl ?_
  (repeat (first | with_reducible refine w_seq ?_ | with_reducible refine w_set ?_ | with_reducible refine w_expr ?_ | with_reducible refine w_ret ?_ | with_reducible refine w_retN ?_ | with_reducible refine w_store ?_ | with_reducible refine w_nop ?_ | with_reducible refine w_for ?_ | with_reducible refine w_asg ?_ | with_reducible refine w_ct ?_ | with_reducible refine w_brk ?_ | with_reducible refine y_f2 ?_ | with_reducible refine y_C ?_ | with_reducible refine y_var (by with_unfolding_all exact rfl) ?_ | with_reducible refine y_f1 ?_ | with_reducible refine y_B ?_ | with_reducible refine y_unB ?_ | with_reducible refine y_ch ?_ | with_reducible refine y_tru ?_ | with_reducible refine y_tbl ?_ | with_reducible refine y_and ?_ | with_reducible refine y_or ?_ | with_reducible refine y_not ?_ | with_reducible refine y_andV ?_ | with_reducible refine y_notV ?_ | with_reducible refine y_nil ?_ | with_reducible refine y_cons ?_ | with_reducible refine y_tup ?_ | with_reducible refine y_lst ?_ | with_reducible refine y_val ?_ | with_reducible refine y_loc ?_ | with_reducible refine y_dval ?_ | with_reducible refine y_dloc ?_ | with_reducible refine y_ice ?_ | with_reducible refine y_oNone ?_ | with_reducible refine y_oSome ?_ | with_reducible refine y_sl ?_ | with_reducible refine y_A ?_ | with_reducible refine y_call ?_ | with_reducible refine y_M ?_ | with_reducible refine y_aComp ?_ | with_reducible refine y_rng1 ?_ | with_reducible refine y_over ?_ | with_reducible refine y_addI ?_ | with_reducible refine y_subI ?_ | with_reducible refine y_ltI ?_ | with_reducible refine y_leI ?_ | with_reducible refine y_gtI ?_ | with_reducible refine y_geI ?_ | with_reducible refine y_eqI ?_ | with_reducible refine y_neI ?_ | with_reducible refine y_eqB ?_ | with_reducible refine y_neB ?_ | with_reducible refine y_eqS ?_ | with_reducible refine y_neS ?_ | with_reducible refine y_isN ?_ | with_reducible refine y_isnN ?_ | with_reducible refine y_wget ?_ | with_reducible refine And.intro (len_ok (by with_unfolding_all exact rfl)) ?_))
  refine ⟨rfl, (draw t1 (by omega) (by first | decide | omega) (by first | decide | omega)).mono ?_⟩; rintro _ S2 ⟨r2, rfl, r20, r21, t2, l2, f2⟩
  refine y_ixL r20 r21 fun u hu _ => ?_
  refine ⟨plB_ok ?_, t2.mono (by omega), f1.trans f2⟩
  simp only [List.mem_cons, List.mem_nil_iff, or_false] at ho
  have all : ∀ {us : List U}, us.all (plB 4 3) = true → u ∈ us → plB 4 3 u = true := fun h m => List.all_eq_true.mp h _ m
  rcases ho with rfl | rfl | rfl | rfl | rfl | rfl | rfl <;> exact all (by decide +kernel) hu

end Law

set_option Elab.async false
set_option linter.all false
set_option maxRecDepth 100000
set_option maxHeartbeats 2000000
namespace Law
open PySem PySem.Spec L2 DL
/-! ### bent things -/
def BentP (n c m : Nat) (b : Int) (S : Sto) (u : U) (S' : Sto) : Prop := Pl (c + 1) (m + 3) u ∧ Tape n (b + 150 * (m + 1)) S' ∧ Fr [n] S S'
theorem bent_step {n c : Nat} (hc : 3 ≤ c) (hc2 : c ≤ 1000) (m k : Nat) (hm : m ≤ 60) {b : Int} {x : U} {S : Sto} (t0 : Tape n b S) (hb : b + 150 * (m + 1) ≤ 2 ^ 100) (px : Pl c m x)
    (hrec : ∀ e, m = e + 1 → ∀ {b : Int} {x : U} {S : Sto}, Tape n b S → b + 150 * (e + 1) ≤ 2 ^ 100 → Pl c e x → Y (call (k + 2) i_law_bent [.loc n, x] S) (BentP n c e b S)) :
    Y (call (k + 3) i_law_bent [.loc n, x] S) (BentP n c m b S) := by
  refine y_run ?_
  show WS (b_law_bent (call (k + 2)) [some (.loc n), some x, none, none] S) _
  unfold b_law_bent
  (repeat (first | with_reducible refine w_seq ?_ | with_reducible refine w_set ?_ | with_reducible refine w_expr ?_ | with_reducible refine w_ret ?_ | with_reducible refine w_retN ?_ | with_reducible refine w_store ?_ | with_reducible refine w_nop ?_ | with_reducible refine w_for ?_ | with_reducible refine w_asg ?_ | with_reducible refine w_ct ?_ | with_reducible refine w_brk ?_ | with_reducible refine y_f2 ?_ | with_reducible refine y_C ?_ | with_reducible refine y_var (by with_unfolding_all exact rfl) ?_ | with_reducible refine y_f1 ?_ | with_reducible refine y_B ?_ | with_reducible refine y_unB ?_ | with_reducible refine y_ch ?_ | with_reducible refine y_tru ?_ | with_reducible refine y_tbl ?_ | with_reducible refine y_and ?_ | with_reducible refine y_or ?_ | with_reducible refine y_not ?_ | with_reducible refine y_andV ?_ | with_reducible refine y_notV ?_ | with_reducible refine y_nil ?_ | with_reducible refine y_cons ?_ | with_reducible refine y_tup ?_ | with_reducible refine y_lst ?_ | with_reducible refine y_val ?_ | with_reducible refine y_loc ?_ | with_reducible refine y_dval ?_ | with_reducible refine y_dloc ?_ | with_reducible refine y_ice ?_ | with_reducible refine y_oNone ?_ | with_reducible refine y_oSome ?_ | with_reducible refine y_sl ?_ | with_reducible refine y_A ?_ | with_reducible refine y_call ?_ | with_reducible refine y_M ?_ | with_reducible refine y_aComp ?_ | with_reducible refine y_rng1 ?_ | with_reducible refine y_over ?_ | with_reducible refine y_addI ?_ | with_reducible refine y_subI ?_ | with_reducible refine y_ltI ?_ | with_reducible refine y_leI ?_ | with_reducible refine y_gtI ?_ | with_reducible refine y_geI ?_ | with_reducible refine y_eqI ?_ | with_reducible refine y_neI ?_ | with_reducible refine y_eqB ?_ | with_reducible refine y_neB ?_ | with_reducible refine y_eqS ?_ | with_reducible refine y_neS ?_ | with_reducible refine y_isN ?_ | with_reducible refine y_isnN ?_ | with_reducible refine y_wget ?_ | with_reducible refine And.intro (len_ok (by with_unfolding_all exact rfl)) ?_))
  refine w_if (Y.mono (P := fun r S1 => Tape n (b + 30) S1 ∧ Fr [n] S S1 ∧ (r = false → ∃ us, x = .tup us ∧ 1 ≤ us.length)) ?_ ?_)
  · (repeat (first | with_reducible refine w_seq ?_ | with_reducible refine w_set ?_ | with_reducible refine w_expr ?_ | with_reducible refine w_ret ?_ | with_reducible refine w_retN ?_ | with_reducible refine w_store ?_ | with_reducible refine w_nop ?_ | with_reducible refine w_for ?_ | with_reducible refine w_asg ?_ | with_reducible refine w_ct ?_ | with_reducible refine w_brk ?_ | with_reducible refine y_f2 ?_ | with_reducible refine y_C ?_ | with_reducible refine y_var (by with_unfolding_all exact rfl) ?_ | with_reducible refine y_f1 ?_ | with_reducible refine y_B ?_ | with_reducible refine y_unB ?_ | with_reducible refine y_ch ?_ | with_reducible refine y_tru ?_ | with_reducible refine y_tbl ?_ | with_reducible refine y_and ?_ | with_reducible refine y_or ?_ | with_reducible refine y_not ?_ | with_reducible refine y_andV ?_ | with_reducible refine y_notV ?_ | with_reducible refine y_nil ?_ | with_reducible refine y_cons ?_ | with_reducible refine y_tup ?_ | with_reducible refine y_lst ?_ | with_reducible refine y_val ?_ | with_reducible refine y_loc ?_ | with_reducible refine y_dval ?_ | with_reducible refine y_dloc ?_ | with_reducible refine y_ice ?_ | with_reducible refine y_oNone ?_ | with_reducible refine y_oSome ?_ | with_reducible refine y_sl ?_ | with_reducible refine y_A ?_ | with_reducible refine y_call ?_ | with_reducible refine y_M ?_ | with_reducible refine y_aComp ?_ | with_reducible refine y_rng1 ?_ | with_reducible refine y_over ?_ | with_reducible refine y_addI ?_ | with_reducible refine y_subI ?_ | with_reducible refine y_ltI ?_ | with_reducible refine y_leI ?_ | with_reducible refine y_gtI ?_ | with_reducible refine y_geI ?_ | with_reducible refine y_eqI ?_ | with_reducible refine y_neI ?_ | with_reducible refine y_eqB ?_ | with_reducible refine y_neB ?_ | with_reducible refine y_eqS ?_ | with_reducible refine y_neS ?_ | with_reducible refine y_isN ?_ | with_reducible refine y_isnN ?_ | with_reducible refine y_wget ?_ | with_reducible refine And.intro (len_ok (by with_unfolding_all exact rfl)) ?_))
    refine y_isT px ?_
    (repeat (first | with_reducible refine w_seq ?_ | with_reducible refine w_set ?_ | with_reducible refine w_expr ?_ | with_reducible refine w_ret ?_ | with_reducible refine w_retN ?_ | with_reducible refine w_store ?_ | with_reducible refine w_nop ?_ | with_reducible refine w_for ?_ | with_reducible refine w_asg ?_ | with_reducible refine w_ct ?_ | with_reducible refine w_brk ?_ | with_reducible refine y_f2 ?_ | with_reducible refine y_C ?_ | with_reducible refine y_var (by with_unfolding_all exact rfl) ?_ | with_reducible refine y_f1 ?_ | with_reducible refine y_B ?_ | with_reducible refine y_unB ?_ | with_reducible refine y_ch ?_ | with_reducible refine y_tru ?_ | with_reducible refine y_tbl ?_ | with_reducible refine y_and ?_ | with_reducible refine y_or ?_ | with_reducible refine y_not ?_ | with_reducible refine y_andV ?_ | with_reducible refine y_notV ?_ | with_reducible refine y_nil ?_ | with_reducible refine y_cons ?_ | with_reducible refine y_tup ?_ | with_reducible refine y_lst ?_ | with_reducible refine y_val ?_ | with_reducible refine y_loc ?_ | with_reducible refine y_dval ?_ | with_reducible refine y_dloc ?_ | with_reducible refine y_ice ?_ | with_reducible refine y_oNone ?_ | with_reducible refine y_oSome ?_ | with_reducible refine y_sl ?_ | with_reducible refine y_A ?_ | with_reducible refine y_call ?_ | with_reducible refine y_M ?_ | with_reducible refine y_aComp ?_ | with_reducible refine y_rng1 ?_ | with_reducible refine y_over ?_ | with_reducible refine y_addI ?_ | with_reducible refine y_subI ?_ | with_reducible refine y_ltI ?_ | with_reducible refine y_leI ?_ | with_reducible refine y_gtI ?_ | with_reducible refine y_geI ?_ | with_reducible refine y_eqI ?_ | with_reducible refine y_neI ?_ | with_reducible refine y_eqB ?_ | with_reducible refine y_neB ?_ | with_reducible refine y_eqS ?_ | with_reducible refine y_neS ?_ | with_reducible refine y_isN ?_ | with_reducible refine y_isnN ?_ | with_reducible refine y_wget ?_ | with_reducible refine And.intro (len_ok (by with_unfolding_all exact rfl)) ?_))
    refine ite_b (fun c1 => ⟨t0.mono (by omega), Fr.refl _ _, fun h => by cases h⟩) (fun c1 => ?_)
    obtain ⟨us, rfl⟩ : ∃ us, x = .tup us := by
      cases x with
      | tup us => exact ⟨us, rfl⟩
      | _ => cases c1
    (repeat (first | with_reducible refine w_seq ?_ | with_reducible refine w_set ?_ | with_reducible refine w_expr ?_ | with_reducible refine w_ret ?_ | with_reducible refine w_retN ?_ | with_reducible refine w_store ?_ | with_reducible refine w_nop ?_ | with_reducible refine w_for ?_ | with_reducible refine w_asg ?_ | with_reducible refine w_ct ?_ | with_reducible refine w_brk ?_ | with_reducible refine y_f2 ?_ | with_reducible refine y_C ?_ | with_reducible refine y_var (by with_unfolding_all exact rfl) ?_ | with_reducible refine y_f1 ?_ | with_reducible refine y_B ?_ | with_reducible refine y_unB ?_ | with_reducible refine y_ch ?_ | with_reducible refine y_tru ?_ | with_reducible refine y_tbl ?_ | with_reducible refine y_and ?_ | with_reducible refine y_or ?_ | with_reducible refine y_not ?_ | with_reducible refine y_andV ?_ | with_reducible refine y_notV ?_ | with_reducible refine y_nil ?_ | with_reducible refine y_cons ?_ | with_reducible refine y_tup ?_ | with_reducible refine y_lst ?_ | with_reducible refine y_val ?_ | with_reducible refine y_loc ?_ | with_reducible refine y_dval ?_ | with_reducible refine y_dloc ?_ | with_reducible refine y_ice ?_ | with_reducible refine y_oNone ?_ | with_reducible refine y_oSome ?_ | with_reducible refine y_sl ?_ | with_reducible refine y_A ?_ | with_reducible refine y_call ?_ | with_reducible refine y_M ?_ | with_reducible refine y_aComp ?_ | with_reducible refine y_rng1 ?_ | with_reducible refine y_over ?_ | with_reducible refine y_addI ?_ | with_reducible refine y_subI ?_ | with_reducible refine y_ltI ?_ | with_reducible refine y_leI ?_ | with_reducible refine y_gtI ?_ | with_reducible refine y_geI ?_ | with_reducible refine y_eqI ?_ | with_reducible refine y_neI ?_ | with_reducible refine y_eqB ?_ | with_reducible refine y_neB ?_ | with_reducible refine y_eqS ?_ | with_reducible refine y_neS ?_ | with_reducible refine y_isN ?_ | with_reducible refine y_isnN ?_ | with_reducible refine y_wget ?_ | with_reducible refine And.intro (len_ok (by with_unfolding_all exact rfl)) ?_))
    refine y_eqE px (by omega) ?_
    (repeat (first | with_reducible refine w_seq ?_ | with_reducible refine w_set ?_ | with_reducible refine w_expr ?_ | with_reducible refine w_ret ?_ | with_reducible refine w_retN ?_ | with_reducible refine w_store ?_ | with_reducible refine w_nop ?_ | with_reducible refine w_for ?_ | with_reducible refine w_asg ?_ | with_reducible refine w_ct ?_ | with_reducible refine w_brk ?_ | with_reducible refine y_f2 ?_ | with_reducible refine y_C ?_ | with_reducible refine y_var (by with_unfolding_all exact rfl) ?_ | with_reducible refine y_f1 ?_ | with_reducible refine y_B ?_ | with_reducible refine y_unB ?_ | with_reducible refine y_ch ?_ | with_reducible refine y_tru ?_ | with_reducible refine y_tbl ?_ | with_reducible refine y_and ?_ | with_reducible refine y_or ?_ | with_reducible refine y_not ?_ | with_reducible refine y_andV ?_ | with_reducible refine y_notV ?_ | with_reducible refine y_nil ?_ | with_reducible refine y_cons ?_ | with_reducible refine y_tup ?_ | with_reducible refine y_lst ?_ | with_reducible refine y_val ?_ | with_reducible refine y_loc ?_ | with_reducible refine y_dval ?_ | with_reducible refine y_dloc ?_ | with_reducible refine y_ice ?_ | with_reducible refine y_oNone ?_ | with_reducible refine y_oSome ?_ | with_reducible refine y_sl ?_ | with_reducible refine y_A ?_ | with_reducible refine y_call ?_ | with_reducible refine y_M ?_ | with_reducible refine y_aComp ?_ | with_reducible refine y_rng1 ?_ | with_reducible refine y_over ?_ | with_reducible refine y_addI ?_ | with_reducible refine y_subI ?_ | with_reducible refine y_ltI ?_ | with_reducible refine y_leI ?_ | with_reducible refine y_gtI ?_ | with_reducible refine y_geI ?_ | with_reducible refine y_eqI ?_ | with_reducible refine y_neI ?_ | with_reducible refine y_eqB ?_ | with_reducible refine y_neB ?_ | with_reducible refine y_eqS ?_ | with_reducible refine y_neS ?_ | with_reducible refine y_isN ?_ | with_reducible refine y_isnN ?_ | with_reducible refine y_wget ?_ | with_reducible refine And.intro (len_ok (by with_unfolding_all exact rfl)) ?_))
    refine ite_b (fun c1 => ⟨t0.mono (by omega), Fr.refl _ _, fun h => by cases h⟩) (fun c2 => ?_)
    (repeat (first | with_reducible refine w_seq ?_ | with_reducible refine w_set ?_ | with_reducible refine w_expr ?_ | with_reducible refine w_ret ?_ | with_reducible refine w_retN ?_ | with_reducible refine w_store ?_ | with_reducible refine w_nop ?_ | with_reducible refine w_for ?_ | with_reducible refine w_asg ?_ | with_reducible refine w_ct ?_ | with_reducible refine w_brk ?_ | with_reducible refine y_f2 ?_ | with_reducible refine y_C ?_ | with_reducible refine y_var (by with_unfolding_all exact rfl) ?_ | with_reducible refine y_f1 ?_ | with_reducible refine y_B ?_ | with_reducible refine y_unB ?_ | with_reducible refine y_ch ?_ | with_reducible refine y_tru ?_ | with_reducible refine y_tbl ?_ | with_reducible refine y_and ?_ | with_reducible refine y_or ?_ | with_reducible refine y_not ?_ | with_reducible refine y_andV ?_ | with_reducible refine y_notV ?_ | with_reducible refine y_nil ?_ | with_reducible refine y_cons ?_ | with_reducible refine y_tup ?_ | with_reducible refine y_lst ?_ | with_reducible refine y_val ?_ | with_reducible refine y_loc ?_ | with_reducible refine y_dval ?_ | with_reducible refine y_dloc ?_ | with_reducible refine y_ice ?_ | with_reducible refine y_oNone ?_ | with_reducible refine y_oSome ?_ | with_reducible refine y_sl ?_ | with_reducible refine y_A ?_ | with_reducible refine y_call ?_ | with_reducible refine y_M ?_ | with_reducible refine y_aComp ?_ | with_reducible refine y_rng1 ?_ | with_reducible refine y_over ?_ | with_reducible refine y_addI ?_ | with_reducible refine y_subI ?_ | with_reducible refine y_ltI ?_ | with_reducible refine y_leI ?_ | with_reducible refine y_gtI ?_ | with_reducible refine y_geI ?_ | with_reducible refine y_eqI ?_ | with_reducible refine y_neI ?_ | with_reducible refine y_eqB ?_ | with_reducible refine y_neB ?_ | with_reducible refine y_eqS ?_ | with_reducible refine y_neS ?_ | with_reducible refine y_isN ?_ | with_reducible refine y_isnN ?_ | with_reducible refine y_wget ?_ | with_reducible refine And.intro (len_ok (by with_unfolding_all exact rfl)) ?_))
    refine ⟨rfl, (draw t0 (by omega) (by first | decide | omega) (by first | decide | omega)).mono ?_⟩; rintro _ S1 ⟨r1, rfl, r10, r11, t1, l1, f1⟩
    (repeat (first | with_reducible refine w_seq ?_ | with_reducible refine w_set ?_ | with_reducible refine w_expr ?_ | with_reducible refine w_ret ?_ | with_reducible refine w_retN ?_ | with_reducible refine w_store ?_ | with_reducible refine w_nop ?_ | with_reducible refine w_for ?_ | with_reducible refine w_asg ?_ | with_reducible refine w_ct ?_ | with_reducible refine w_brk ?_ | with_reducible refine y_f2 ?_ | with_reducible refine y_C ?_ | with_reducible refine y_var (by with_unfolding_all exact rfl) ?_ | with_reducible refine y_f1 ?_ | with_reducible refine y_B ?_ | with_reducible refine y_unB ?_ | with_reducible refine y_ch ?_ | with_reducible refine y_tru ?_ | with_reducible refine y_tbl ?_ | with_reducible refine y_and ?_ | with_reducible refine y_or ?_ | with_reducible refine y_not ?_ | with_reducible refine y_andV ?_ | with_reducible refine y_notV ?_ | with_reducible refine y_nil ?_ | with_reducible refine y_cons ?_ | with_reducible refine y_tup ?_ | with_reducible refine y_lst ?_ | with_reducible refine y_val ?_ | with_reducible refine y_loc ?_ | with_reducible refine y_dval ?_ | with_reducible refine y_dloc ?_ | with_reducible refine y_ice ?_ | with_reducible refine y_oNone ?_ | with_reducible refine y_oSome ?_ | with_reducible refine y_sl ?_ | with_reducible refine y_A ?_ | with_reducible refine y_call ?_ | with_reducible refine y_M ?_ | with_reducible refine y_aComp ?_ | with_reducible refine y_rng1 ?_ | with_reducible refine y_over ?_ | with_reducible refine y_addI ?_ | with_reducible refine y_subI ?_ | with_reducible refine y_ltI ?_ | with_reducible refine y_leI ?_ | with_reducible refine y_gtI ?_ | with_reducible refine y_geI ?_ | with_reducible refine y_eqI ?_ | with_reducible refine y_neI ?_ | with_reducible refine y_eqB ?_ | with_reducible refine y_neB ?_ | with_reducible refine y_eqS ?_ | with_reducible refine y_neS ?_ | with_reducible refine y_isN ?_ | with_reducible refine y_isnN ?_ | with_reducible refine y_wget ?_ | with_reducible refine And.intro (len_ok (by with_unfolding_all exact rfl)) ?_))
    refine ⟨t1, f1, fun _ => ⟨us, rfl, ?_⟩⟩
    cases us with
    | nil => cases c2
    | cons u us => rw [List.length_cons]; omega
  rintro r S1 ⟨t1, f1, hr⟩
  refine ite_b (fun c1 => ?_) (fun c1 => ?_)
  · (repeat (first | with_reducible refine w_seq ?_ | with_reducible refine w_set ?_ | with_reducible refine w_expr ?_ | with_reducible refine w_ret ?_ | with_reducible refine w_retN ?_ | with_reducible refine w_store ?_ | with_reducible refine w_nop ?_ | with_reducible refine w_for ?_ | with_reducible refine w_asg ?_ | with_reducible refine w_ct ?_ | with_reducible refine w_brk ?_ | with_reducible refine y_f2 ?_ | with_reducible refine y_C ?_ | with_reducible refine y_var (by with_unfolding_all exact rfl) ?_ | with_reducible refine y_f1 ?_ | with_reducible refine y_B ?_ | with_reducible refine y_unB ?_ | with_reducible refine y_ch ?_ | with_reducible refine y_tru ?_ | with_reducible refine y_tbl ?_ | with_reducible refine y_and ?_ | with_reducible refine y_or ?_ | with_reducible refine y_not ?_ | with_reducible refine y_andV ?_ | with_reducible refine y_notV ?_ | with_reducible refine y_nil ?_ | with_reducible refine y_cons ?_ | with_reducible refine y_tup ?_ | with_reducible refine y_lst ?_ | with_reducible refine y_val ?_ | with_reducible refine y_loc ?_ | with_reducible refine y_dval ?_ | with_reducible refine y_dloc ?_ | with_reducible refine y_ice ?_ | with_reducible refine y_oNone ?_ | with_reducible refine y_oSome ?_ | with_reducible refine y_sl ?_ | with_reducible refine y_A ?_ | with_reducible refine y_call ?_ | with_reducible refine y_M ?_ | with_reducible refine y_aComp ?_ | with_reducible refine y_rng1 ?_ | with_reducible refine y_over ?_ | with_reducible refine y_addI ?_ | with_reducible refine y_subI ?_ | with_reducible refine y_ltI ?_ | with_reducible refine y_leI ?_ | with_reducible refine y_gtI ?_ | with_reducible refine y_geI ?_ | with_reducible refine y_eqI ?_ | with_reducible refine y_neI ?_ | with_reducible refine y_eqB ?_ | with_reducible refine y_neB ?_ | with_reducible refine y_eqS ?_ | with_reducible refine y_neS ?_ | with_reducible refine y_isN ?_ | with_reducible refine y_isnN ?_ | with_reducible refine y_wget ?_ | with_reducible refine And.intro (len_ok (by with_unfolding_all exact rfl)) ?_))
    refine ⟨rfl, (other t1 (by omega)).mono ?_⟩
    rintro u S2 ⟨pu, t2, f2⟩
    exact ⟨pu.ups (by omega) (by omega), t2.mono (by omega), f1.trans f2⟩
  obtain ⟨us, rfl, hl⟩ := hr c1
  obtain ⟨hlc, e, rfl, pus⟩ := px.tup
  (repeat (first | with_reducible refine w_seq ?_ | with_reducible refine w_set ?_ | with_reducible refine w_expr ?_ | with_reducible refine w_ret ?_ | with_reducible refine w_retN ?_ | with_reducible refine w_store ?_ | with_reducible refine w_nop ?_ | with_reducible refine w_for ?_ | with_reducible refine w_asg ?_ | with_reducible refine w_ct ?_ | with_reducible refine w_brk ?_ | with_reducible refine y_f2 ?_ | with_reducible refine y_C ?_ | with_reducible refine y_var (by with_unfolding_all exact rfl) ?_ | with_reducible refine y_f1 ?_ | with_reducible refine y_B ?_ | with_reducible refine y_unB ?_ | with_reducible refine y_ch ?_ | with_reducible refine y_tru ?_ | with_reducible refine y_tbl ?_ | with_reducible refine y_and ?_ | with_reducible refine y_or ?_ | with_reducible refine y_not ?_ | with_reducible refine y_andV ?_ | with_reducible refine y_notV ?_ | with_reducible refine y_nil ?_ | with_reducible refine y_cons ?_ | with_reducible refine y_tup ?_ | with_reducible refine y_lst ?_ | with_reducible refine y_val ?_ | with_reducible refine y_loc ?_ | with_reducible refine y_dval ?_ | with_reducible refine y_dloc ?_ | with_reducible refine y_ice ?_ | with_reducible refine y_oNone ?_ | with_reducible refine y_oSome ?_ | with_reducible refine y_sl ?_ | with_reducible refine y_A ?_ | with_reducible refine y_call ?_ | with_reducible refine y_M ?_ | with_reducible refine y_aComp ?_ | with_reducible refine y_rng1 ?_ | with_reducible refine y_over ?_ | with_reducible refine y_addI ?_ | with_reducible refine y_subI ?_ | with_reducible refine y_ltI ?_ | with_reducible refine y_leI ?_ | with_reducible refine y_gtI ?_ | with_reducible refine y_geI ?_ | with_reducible refine y_eqI ?_ | with_reducible refine y_neI ?_ | with_reducible refine y_eqB ?_ | with_reducible refine y_neB ?_ | with_reducible refine y_eqS ?_ | with_reducible refine y_neS ?_ | with_reducible refine y_isN ?_ | with_reducible refine y_isnN ?_ | with_reducible refine y_wget ?_ | with_reducible refine And.intro (len_ok (by with_unfolding_all exact rfl)) ?_))
  refine y_lenT ?_
  (repeat (first | with_reducible refine w_seq ?_ | with_reducible refine w_set ?_ | with_reducible refine w_expr ?_ | with_reducible refine w_ret ?_ | with_reducible refine w_retN ?_ | with_reducible refine w_store ?_ | with_reducible refine w_nop ?_ | with_reducible refine w_for ?_ | with_reducible refine w_asg ?_ | with_reducible refine w_ct ?_ | with_reducible refine w_brk ?_ | with_reducible refine y_f2 ?_ | with_reducible refine y_C ?_ | with_reducible refine y_var (by with_unfolding_all exact rfl) ?_ | with_reducible refine y_f1 ?_ | with_reducible refine y_B ?_ | with_reducible refine y_unB ?_ | with_reducible refine y_ch ?_ | with_reducible refine y_tru ?_ | with_reducible refine y_tbl ?_ | with_reducible refine y_and ?_ | with_reducible refine y_or ?_ | with_reducible refine y_not ?_ | with_reducible refine y_andV ?_ | with_reducible refine y_notV ?_ | with_reducible refine y_nil ?_ | with_reducible refine y_cons ?_ | with_reducible refine y_tup ?_ | with_reducible refine y_lst ?_ | with_reducible refine y_val ?_ | with_reducible refine y_loc ?_ | with_reducible refine y_dval ?_ | with_reducible refine y_dloc ?_ | with_reducible refine y_ice ?_ | with_reducible refine y_oNone ?_ | with_reducible refine y_oSome ?_ | with_reducible refine y_sl ?_ | with_reducible refine y_A ?_ | with_reducible refine y_call ?_ | with_reducible refine y_M ?_ | with_reducible refine y_aComp ?_ | with_reducible refine y_rng1 ?_ | with_reducible refine y_over ?_ | with_reducible refine y_addI ?_ | with_reducible refine y_subI ?_ | with_reducible refine y_ltI ?_ | with_reducible refine y_leI ?_ | with_reducible refine y_gtI ?_ | with_reducible refine y_geI ?_ | with_reducible refine y_eqI ?_ | with_reducible refine y_neI ?_ | with_reducible refine y_eqB ?_ | with_reducible refine y_neB ?_ | with_reducible refine y_eqS ?_ | with_reducible refine y_neS ?_ | with_reducible refine y_isN ?_ | with_reducible refine y_isnN ?_ | with_reducible refine y_wget ?_ | with_reducible refine And.intro (len_ok (by with_unfolding_all exact rfl)) ?_))
  refine ⟨rfl, (draw t1 (by omega) (by first | decide | omega) (by first | decide | omega)).mono ?_⟩; rintro _ S2 ⟨r2, rfl, r20, r21, t2, l2, f2⟩
  obtain ⟨j, rfl⟩ := Int.eq_ofNat_of_zero_le r20
  have hj : j < us.length := by omega
  (repeat (first | with_reducible refine w_seq ?_ | with_reducible refine w_set ?_ | with_reducible refine w_expr ?_ | with_reducible refine w_ret ?_ | with_reducible refine w_retN ?_ | with_reducible refine w_store ?_ | with_reducible refine w_nop ?_ | with_reducible refine w_for ?_ | with_reducible refine w_asg ?_ | with_reducible refine w_ct ?_ | with_reducible refine w_brk ?_ | with_reducible refine y_f2 ?_ | with_reducible refine y_C ?_ | with_reducible refine y_var (by with_unfolding_all exact rfl) ?_ | with_reducible refine y_f1 ?_ | with_reducible refine y_B ?_ | with_reducible refine y_unB ?_ | with_reducible refine y_ch ?_ | with_reducible refine y_tru ?_ | with_reducible refine y_tbl ?_ | with_reducible refine y_and ?_ | with_reducible refine y_or ?_ | with_reducible refine y_not ?_ | with_reducible refine y_andV ?_ | with_reducible refine y_notV ?_ | with_reducible refine y_nil ?_ | with_reducible refine y_cons ?_ | with_reducible refine y_tup ?_ | with_reducible refine y_lst ?_ | with_reducible refine y_val ?_ | with_reducible refine y_loc ?_ | with_reducible refine y_dval ?_ | with_reducible refine y_dloc ?_ | with_reducible refine y_ice ?_ | with_reducible refine y_oNone ?_ | with_reducible refine y_oSome ?_ | with_reducible refine y_sl ?_ | with_reducible refine y_A ?_ | with_reducible refine y_call ?_ | with_reducible refine y_M ?_ | with_reducible refine y_aComp ?_ | with_reducible refine y_rng1 ?_ | with_reducible refine y_over ?_ | with_reducible refine y_addI ?_ | with_reducible refine y_subI ?_ | with_reducible refine y_ltI ?_ | with_reducible refine y_leI ?_ | with_reducible refine y_gtI ?_ | with_reducible refine y_geI ?_ | with_reducible refine y_eqI ?_ | with_reducible refine y_neI ?_ | with_reducible refine y_eqB ?_ | with_reducible refine y_neB ?_ | with_reducible refine y_eqS ?_ | with_reducible refine y_neS ?_ | with_reducible refine y_isN ?_ | with_reducible refine y_isnN ?_ | with_reducible refine y_wget ?_ | with_reducible refine And.intro (len_ok (by with_unfolding_all exact rfl)) ?_))
  have ej : ((j : Int) + 1) = ((j + 1 : Nat) : Int) := by omega
  have pre : ∀ u ∈ us.take j, Pl c e u := fun u h => pus u (List.mem_of_mem_take h)
  have suf : ∀ u ∈ us.drop (j + 1), Pl c e u := fun u h => pus u (List.mem_of_mem_drop h)
  have lpre : (us.take j).length = j := by rw [List.length_take]; omega
  have lsuf : (us.drop (j + 1)).length = us.length - (j + 1) := List.length_drop
  have py : Pl c 1 (.tup [.str "yes"]) := Pl.ups (by omega) (Nat.le_refl _) (plB_ok (c := 3) (by decide +kernel))
  refine ⟨_, rfl, y_slT ?_⟩
  rw [cut_pre]
  (repeat (first | with_reducible refine w_seq ?_ | with_reducible refine w_set ?_ | with_reducible refine w_expr ?_ | with_reducible refine w_ret ?_ | with_reducible refine w_retN ?_ | with_reducible refine w_store ?_ | with_reducible refine w_nop ?_ | with_reducible refine w_for ?_ | with_reducible refine w_asg ?_ | with_reducible refine w_ct ?_ | with_reducible refine w_brk ?_ | with_reducible refine y_f2 ?_ | with_reducible refine y_C ?_ | with_reducible refine y_var (by with_unfolding_all exact rfl) ?_ | with_reducible refine y_f1 ?_ | with_reducible refine y_B ?_ | with_reducible refine y_unB ?_ | with_reducible refine y_ch ?_ | with_reducible refine y_tru ?_ | with_reducible refine y_tbl ?_ | with_reducible refine y_and ?_ | with_reducible refine y_or ?_ | with_reducible refine y_not ?_ | with_reducible refine y_andV ?_ | with_reducible refine y_notV ?_ | with_reducible refine y_nil ?_ | with_reducible refine y_cons ?_ | with_reducible refine y_tup ?_ | with_reducible refine y_lst ?_ | with_reducible refine y_val ?_ | with_reducible refine y_loc ?_ | with_reducible refine y_dval ?_ | with_reducible refine y_dloc ?_ | with_reducible refine y_ice ?_ | with_reducible refine y_oNone ?_ | with_reducible refine y_oSome ?_ | with_reducible refine y_sl ?_ | with_reducible refine y_A ?_ | with_reducible refine y_call ?_ | with_reducible refine y_M ?_ | with_reducible refine y_aComp ?_ | with_reducible refine y_rng1 ?_ | with_reducible refine y_over ?_ | with_reducible refine y_addI ?_ | with_reducible refine y_subI ?_ | with_reducible refine y_ltI ?_ | with_reducible refine y_leI ?_ | with_reducible refine y_gtI ?_ | with_reducible refine y_geI ?_ | with_reducible refine y_eqI ?_ | with_reducible refine y_neI ?_ | with_reducible refine y_eqB ?_ | with_reducible refine y_neB ?_ | with_reducible refine y_eqS ?_ | with_reducible refine y_neS ?_ | with_reducible refine y_isN ?_ | with_reducible refine y_isnN ?_ | with_reducible refine y_wget ?_ | with_reducible refine And.intro (len_ok (by with_unfolding_all exact rfl)) ?_))
  refine y_ixT (by omega) (by omega) fun xj hxj _ => ?_
  (repeat (first | with_reducible refine w_seq ?_ | with_reducible refine w_set ?_ | with_reducible refine w_expr ?_ | with_reducible refine w_ret ?_ | with_reducible refine w_retN ?_ | with_reducible refine w_store ?_ | with_reducible refine w_nop ?_ | with_reducible refine w_for ?_ | with_reducible refine w_asg ?_ | with_reducible refine w_ct ?_ | with_reducible refine w_brk ?_ | with_reducible refine y_f2 ?_ | with_reducible refine y_C ?_ | with_reducible refine y_var (by with_unfolding_all exact rfl) ?_ | with_reducible refine y_f1 ?_ | with_reducible refine y_B ?_ | with_reducible refine y_unB ?_ | with_reducible refine y_ch ?_ | with_reducible refine y_tru ?_ | with_reducible refine y_tbl ?_ | with_reducible refine y_and ?_ | with_reducible refine y_or ?_ | with_reducible refine y_not ?_ | with_reducible refine y_andV ?_ | with_reducible refine y_notV ?_ | with_reducible refine y_nil ?_ | with_reducible refine y_cons ?_ | with_reducible refine y_tup ?_ | with_reducible refine y_lst ?_ | with_reducible refine y_val ?_ | with_reducible refine y_loc ?_ | with_reducible refine y_dval ?_ | with_reducible refine y_dloc ?_ | with_reducible refine y_ice ?_ | with_reducible refine y_oNone ?_ | with_reducible refine y_oSome ?_ | with_reducible refine y_sl ?_ | with_reducible refine y_A ?_ | with_reducible refine y_call ?_ | with_reducible refine y_M ?_ | with_reducible refine y_aComp ?_ | with_reducible refine y_rng1 ?_ | with_reducible refine y_over ?_ | with_reducible refine y_addI ?_ | with_reducible refine y_subI ?_ | with_reducible refine y_ltI ?_ | with_reducible refine y_leI ?_ | with_reducible refine y_gtI ?_ | with_reducible refine y_geI ?_ | with_reducible refine y_eqI ?_ | with_reducible refine y_neI ?_ | with_reducible refine y_eqB ?_ | with_reducible refine y_neB ?_ | with_reducible refine y_eqS ?_ | with_reducible refine y_neS ?_ | with_reducible refine y_isN ?_ | with_reducible refine y_isnN ?_ | with_reducible refine y_wget ?_ | with_reducible refine And.intro (len_ok (by with_unfolding_all exact rfl)) ?_))
  refine ⟨rfl, (hrec e rfl t2 (by omega) (pus xj hxj)).mono ?_⟩
  rintro v S3 ⟨pv, t3, f3⟩
  (repeat (first | with_reducible refine w_seq ?_ | with_reducible refine w_set ?_ | with_reducible refine w_expr ?_ | with_reducible refine w_ret ?_ | with_reducible refine w_retN ?_ | with_reducible refine w_store ?_ | with_reducible refine w_nop ?_ | with_reducible refine w_for ?_ | with_reducible refine w_asg ?_ | with_reducible refine w_ct ?_ | with_reducible refine w_brk ?_ | with_reducible refine y_f2 ?_ | with_reducible refine y_C ?_ | with_reducible refine y_var (by with_unfolding_all exact rfl) ?_ | with_reducible refine y_f1 ?_ | with_reducible refine y_B ?_ | with_reducible refine y_unB ?_ | with_reducible refine y_ch ?_ | with_reducible refine y_tru ?_ | with_reducible refine y_tbl ?_ | with_reducible refine y_and ?_ | with_reducible refine y_or ?_ | with_reducible refine y_not ?_ | with_reducible refine y_andV ?_ | with_reducible refine y_notV ?_ | with_reducible refine y_nil ?_ | with_reducible refine y_cons ?_ | with_reducible refine y_tup ?_ | with_reducible refine y_lst ?_ | with_reducible refine y_val ?_ | with_reducible refine y_loc ?_ | with_reducible refine y_dval ?_ | with_reducible refine y_dloc ?_ | with_reducible refine y_ice ?_ | with_reducible refine y_oNone ?_ | with_reducible refine y_oSome ?_ | with_reducible refine y_sl ?_ | with_reducible refine y_A ?_ | with_reducible refine y_call ?_ | with_reducible refine y_M ?_ | with_reducible refine y_aComp ?_ | with_reducible refine y_rng1 ?_ | with_reducible refine y_over ?_ | with_reducible refine y_addI ?_ | with_reducible refine y_subI ?_ | with_reducible refine y_ltI ?_ | with_reducible refine y_leI ?_ | with_reducible refine y_gtI ?_ | with_reducible refine y_geI ?_ | with_reducible refine y_eqI ?_ | with_reducible refine y_neI ?_ | with_reducible refine y_eqB ?_ | with_reducible refine y_neB ?_ | with_reducible refine y_eqS ?_ | with_reducible refine y_neS ?_ | with_reducible refine y_isN ?_ | with_reducible refine y_isnN ?_ | with_reducible refine y_wget ?_ | with_reducible refine And.intro (len_ok (by with_unfolding_all exact rfl)) ?_))
  refine y_addT (by rw [sizeL, lpre, List.length_singleton]; omega) ?_
  (repeat (first | with_reducible refine w_seq ?_ | with_reducible refine w_set ?_ | with_reducible refine w_expr ?_ | with_reducible refine w_ret ?_ | with_reducible refine w_retN ?_ | with_reducible refine w_store ?_ | with_reducible refine w_nop ?_ | with_reducible refine w_for ?_ | with_reducible refine w_asg ?_ | with_reducible refine w_ct ?_ | with_reducible refine w_brk ?_ | with_reducible refine y_f2 ?_ | with_reducible refine y_C ?_ | with_reducible refine y_var (by with_unfolding_all exact rfl) ?_ | with_reducible refine y_f1 ?_ | with_reducible refine y_B ?_ | with_reducible refine y_unB ?_ | with_reducible refine y_ch ?_ | with_reducible refine y_tru ?_ | with_reducible refine y_tbl ?_ | with_reducible refine y_and ?_ | with_reducible refine y_or ?_ | with_reducible refine y_not ?_ | with_reducible refine y_andV ?_ | with_reducible refine y_notV ?_ | with_reducible refine y_nil ?_ | with_reducible refine y_cons ?_ | with_reducible refine y_tup ?_ | with_reducible refine y_lst ?_ | with_reducible refine y_val ?_ | with_reducible refine y_loc ?_ | with_reducible refine y_dval ?_ | with_reducible refine y_dloc ?_ | with_reducible refine y_ice ?_ | with_reducible refine y_oNone ?_ | with_reducible refine y_oSome ?_ | with_reducible refine y_sl ?_ | with_reducible refine y_A ?_ | with_reducible refine y_call ?_ | with_reducible refine y_M ?_ | with_reducible refine y_aComp ?_ | with_reducible refine y_rng1 ?_ | with_reducible refine y_over ?_ | with_reducible refine y_addI ?_ | with_reducible refine y_subI ?_ | with_reducible refine y_ltI ?_ | with_reducible refine y_leI ?_ | with_reducible refine y_gtI ?_ | with_reducible refine y_geI ?_ | with_reducible refine y_eqI ?_ | with_reducible refine y_neI ?_ | with_reducible refine y_eqB ?_ | with_reducible refine y_neB ?_ | with_reducible refine y_eqS ?_ | with_reducible refine y_neS ?_ | with_reducible refine y_isN ?_ | with_reducible refine y_isnN ?_ | with_reducible refine y_wget ?_ | with_reducible refine And.intro (len_ok (by with_unfolding_all exact rfl)) ?_))
  refine ⟨_, rfl, ?_⟩
  (repeat (first | with_reducible refine w_seq ?_ | with_reducible refine w_set ?_ | with_reducible refine w_expr ?_ | with_reducible refine w_ret ?_ | with_reducible refine w_retN ?_ | with_reducible refine w_store ?_ | with_reducible refine w_nop ?_ | with_reducible refine w_for ?_ | with_reducible refine w_asg ?_ | with_reducible refine w_ct ?_ | with_reducible refine w_brk ?_ | with_reducible refine y_f2 ?_ | with_reducible refine y_C ?_ | with_reducible refine y_var (by with_unfolding_all exact rfl) ?_ | with_reducible refine y_f1 ?_ | with_reducible refine y_B ?_ | with_reducible refine y_unB ?_ | with_reducible refine y_ch ?_ | with_reducible refine y_tru ?_ | with_reducible refine y_tbl ?_ | with_reducible refine y_and ?_ | with_reducible refine y_or ?_ | with_reducible refine y_not ?_ | with_reducible refine y_andV ?_ | with_reducible refine y_notV ?_ | with_reducible refine y_nil ?_ | with_reducible refine y_cons ?_ | with_reducible refine y_tup ?_ | with_reducible refine y_lst ?_ | with_reducible refine y_val ?_ | with_reducible refine y_loc ?_ | with_reducible refine y_dval ?_ | with_reducible refine y_dloc ?_ | with_reducible refine y_ice ?_ | with_reducible refine y_oNone ?_ | with_reducible refine y_oSome ?_ | with_reducible refine y_sl ?_ | with_reducible refine y_A ?_ | with_reducible refine y_call ?_ | with_reducible refine y_M ?_ | with_reducible refine y_aComp ?_ | with_reducible refine y_rng1 ?_ | with_reducible refine y_over ?_ | with_reducible refine y_addI ?_ | with_reducible refine y_subI ?_ | with_reducible refine y_ltI ?_ | with_reducible refine y_leI ?_ | with_reducible refine y_gtI ?_ | with_reducible refine y_geI ?_ | with_reducible refine y_eqI ?_ | with_reducible refine y_neI ?_ | with_reducible refine y_eqB ?_ | with_reducible refine y_neB ?_ | with_reducible refine y_eqS ?_ | with_reducible refine y_neS ?_ | with_reducible refine y_isN ?_ | with_reducible refine y_isnN ?_ | with_reducible refine y_wget ?_ | with_reducible refine And.intro (len_ok (by with_unfolding_all exact rfl)) ?_))
  refine y_slT ?_
  rw [ej, cut_suf]
  refine y_addT (by rw [sizeL, lsuf, List.length_append, lpre, List.length_singleton]; omega) ?_
  (repeat (first | with_reducible refine w_seq ?_ | with_reducible refine w_set ?_ | with_reducible refine w_expr ?_ | with_reducible refine w_ret ?_ | with_reducible refine w_retN ?_ | with_reducible refine w_store ?_ | with_reducible refine w_nop ?_ | with_reducible refine w_for ?_ | with_reducible refine w_asg ?_ | with_reducible refine w_ct ?_ | with_reducible refine w_brk ?_ | with_reducible refine y_f2 ?_ | with_reducible refine y_C ?_ | with_reducible refine y_var (by with_unfolding_all exact rfl) ?_ | with_reducible refine y_f1 ?_ | with_reducible refine y_B ?_ | with_reducible refine y_unB ?_ | with_reducible refine y_ch ?_ | with_reducible refine y_tru ?_ | with_reducible refine y_tbl ?_ | with_reducible refine y_and ?_ | with_reducible refine y_or ?_ | with_reducible refine y_not ?_ | with_reducible refine y_andV ?_ | with_reducible refine y_notV ?_ | with_reducible refine y_nil ?_ | with_reducible refine y_cons ?_ | with_reducible refine y_tup ?_ | with_reducible refine y_lst ?_ | with_reducible refine y_val ?_ | with_reducible refine y_loc ?_ | with_reducible refine y_dval ?_ | with_reducible refine y_dloc ?_ | with_reducible refine y_ice ?_ | with_reducible refine y_oNone ?_ | with_reducible refine y_oSome ?_ | with_reducible refine y_sl ?_ | with_reducible refine y_A ?_ | with_reducible refine y_call ?_ | with_reducible refine y_M ?_ | with_reducible refine y_aComp ?_ | with_reducible refine y_rng1 ?_ | with_reducible refine y_over ?_ | with_reducible refine y_addI ?_ | with_reducible refine y_subI ?_ | with_reducible refine y_ltI ?_ | with_reducible refine y_leI ?_ | with_reducible refine y_gtI ?_ | with_reducible refine y_geI ?_ | with_reducible refine y_eqI ?_ | with_reducible refine y_neI ?_ | with_reducible refine y_eqB ?_ | with_reducible refine y_neB ?_ | with_reducible refine y_eqS ?_ | with_reducible refine y_neS ?_ | with_reducible refine y_isN ?_ | with_reducible refine y_isnN ?_ | with_reducible refine y_wget ?_ | with_reducible refine And.intro (len_ok (by with_unfolding_all exact rfl)) ?_))
  refine y_mulL (by decide) (by decide) (len_ok (by with_unfolding_all exact rfl)) ?_
  (repeat (first | with_reducible refine w_seq ?_ | with_reducible refine w_set ?_ | with_reducible refine w_expr ?_ | with_reducible refine w_ret ?_ | with_reducible refine w_retN ?_ | with_reducible refine w_store ?_ | with_reducible refine w_nop ?_ | with_reducible refine w_for ?_ | with_reducible refine w_asg ?_ | with_reducible refine w_ct ?_ | with_reducible refine w_brk ?_ | with_reducible refine y_f2 ?_ | with_reducible refine y_C ?_ | with_reducible refine y_var (by with_unfolding_all exact rfl) ?_ | with_reducible refine y_f1 ?_ | with_reducible refine y_B ?_ | with_reducible refine y_unB ?_ | with_reducible refine y_ch ?_ | with_reducible refine y_tru ?_ | with_reducible refine y_tbl ?_ | with_reducible refine y_and ?_ | with_reducible refine y_or ?_ | with_reducible refine y_not ?_ | with_reducible refine y_andV ?_ | with_reducible refine y_notV ?_ | with_reducible refine y_nil ?_ | with_reducible refine y_cons ?_ | with_reducible refine y_tup ?_ | with_reducible refine y_lst ?_ | with_reducible refine y_val ?_ | with_reducible refine y_loc ?_ | with_reducible refine y_dval ?_ | with_reducible refine y_dloc ?_ | with_reducible refine y_ice ?_ | with_reducible refine y_oNone ?_ | with_reducible refine y_oSome ?_ | with_reducible refine y_sl ?_ | with_reducible refine y_A ?_ | with_reducible refine y_call ?_ | with_reducible refine y_M ?_ | with_reducible refine y_aComp ?_ | with_reducible refine y_rng1 ?_ | with_reducible refine y_over ?_ | with_reducible refine y_addI ?_ | with_reducible refine y_subI ?_ | with_reducible refine y_ltI ?_ | with_reducible refine y_leI ?_ | with_reducible refine y_gtI ?_ | with_reducible refine y_geI ?_ | with_reducible refine y_eqI ?_ | with_reducible refine y_neI ?_ | with_reducible refine y_eqB ?_ | with_reducible refine y_neB ?_ | with_reducible refine y_eqS ?_ | with_reducible refine y_neS ?_ | with_reducible refine y_isN ?_ | with_reducible refine y_isnN ?_ | with_reducible refine y_wget ?_ | with_reducible refine And.intro (len_ok (by with_unfolding_all exact rfl)) ?_))
  refine ⟨_, rfl, y_slT ?_⟩
  rw [cut_pre]
  (repeat (first | with_reducible refine w_seq ?_ | with_reducible refine w_set ?_ | with_reducible refine w_expr ?_ | with_reducible refine w_ret ?_ | with_reducible refine w_retN ?_ | with_reducible refine w_store ?_ | with_reducible refine w_nop ?_ | with_reducible refine w_for ?_ | with_reducible refine w_asg ?_ | with_reducible refine w_ct ?_ | with_reducible refine w_brk ?_ | with_reducible refine y_f2 ?_ | with_reducible refine y_C ?_ | with_reducible refine y_var (by with_unfolding_all exact rfl) ?_ | with_reducible refine y_f1 ?_ | with_reducible refine y_B ?_ | with_reducible refine y_unB ?_ | with_reducible refine y_ch ?_ | with_reducible refine y_tru ?_ | with_reducible refine y_tbl ?_ | with_reducible refine y_and ?_ | with_reducible refine y_or ?_ | with_reducible refine y_not ?_ | with_reducible refine y_andV ?_ | with_reducible refine y_notV ?_ | with_reducible refine y_nil ?_ | with_reducible refine y_cons ?_ | with_reducible refine y_tup ?_ | with_reducible refine y_lst ?_ | with_reducible refine y_val ?_ | with_reducible refine y_loc ?_ | with_reducible refine y_dval ?_ | with_reducible refine y_dloc ?_ | with_reducible refine y_ice ?_ | with_reducible refine y_oNone ?_ | with_reducible refine y_oSome ?_ | with_reducible refine y_sl ?_ | with_reducible refine y_A ?_ | with_reducible refine y_call ?_ | with_reducible refine y_M ?_ | with_reducible refine y_aComp ?_ | with_reducible refine y_rng1 ?_ | with_reducible refine y_over ?_ | with_reducible refine y_addI ?_ | with_reducible refine y_subI ?_ | with_reducible refine y_ltI ?_ | with_reducible refine y_leI ?_ | with_reducible refine y_gtI ?_ | with_reducible refine y_geI ?_ | with_reducible refine y_eqI ?_ | with_reducible refine y_neI ?_ | with_reducible refine y_eqB ?_ | with_reducible refine y_neB ?_ | with_reducible refine y_eqS ?_ | with_reducible refine y_neS ?_ | with_reducible refine y_isN ?_ | with_reducible refine y_isnN ?_ | with_reducible refine y_wget ?_ | with_reducible refine And.intro (len_ok (by with_unfolding_all exact rfl)) ?_))
  refine ⟨_, rfl, ?_⟩
  (repeat (first | with_reducible refine w_seq ?_ | with_reducible refine w_set ?_ | with_reducible refine w_expr ?_ | with_reducible refine w_ret ?_ | with_reducible refine w_retN ?_ | with_reducible refine w_store ?_ | with_reducible refine w_nop ?_ | with_reducible refine w_for ?_ | with_reducible refine w_asg ?_ | with_reducible refine w_ct ?_ | with_reducible refine w_brk ?_ | with_reducible refine y_f2 ?_ | with_reducible refine y_C ?_ | with_reducible refine y_var (by with_unfolding_all exact rfl) ?_ | with_reducible refine y_f1 ?_ | with_reducible refine y_B ?_ | with_reducible refine y_unB ?_ | with_reducible refine y_ch ?_ | with_reducible refine y_tru ?_ | with_reducible refine y_tbl ?_ | with_reducible refine y_and ?_ | with_reducible refine y_or ?_ | with_reducible refine y_not ?_ | with_reducible refine y_andV ?_ | with_reducible refine y_notV ?_ | with_reducible refine y_nil ?_ | with_reducible refine y_cons ?_ | with_reducible refine y_tup ?_ | with_reducible refine y_lst ?_ | with_reducible refine y_val ?_ | with_reducible refine y_loc ?_ | with_reducible refine y_dval ?_ | with_reducible refine y_dloc ?_ | with_reducible refine y_ice ?_ | with_reducible refine y_oNone ?_ | with_reducible refine y_oSome ?_ | with_reducible refine y_sl ?_ | with_reducible refine y_A ?_ | with_reducible refine y_call ?_ | with_reducible refine y_M ?_ | with_reducible refine y_aComp ?_ | with_reducible refine y_rng1 ?_ | with_reducible refine y_over ?_ | with_reducible refine y_addI ?_ | with_reducible refine y_subI ?_ | with_reducible refine y_ltI ?_ | with_reducible refine y_leI ?_ | with_reducible refine y_gtI ?_ | with_reducible refine y_geI ?_ | with_reducible refine y_eqI ?_ | with_reducible refine y_neI ?_ | with_reducible refine y_eqB ?_ | with_reducible refine y_neB ?_ | with_reducible refine y_eqS ?_ | with_reducible refine y_neS ?_ | with_reducible refine y_isN ?_ | with_reducible refine y_isnN ?_ | with_reducible refine y_wget ?_ | with_reducible refine And.intro (len_ok (by with_unfolding_all exact rfl)) ?_))
  refine y_slT ?_
  rw [ej, cut_suf]
  refine y_addT (by rw [sizeL, lsuf, lpre]; omega) ?_
  (repeat (first | with_reducible refine w_seq ?_ | with_reducible refine w_set ?_ | with_reducible refine w_expr ?_ | with_reducible refine w_ret ?_ | with_reducible refine w_retN ?_ | with_reducible refine w_store ?_ | with_reducible refine w_nop ?_ | with_reducible refine w_for ?_ | with_reducible refine w_asg ?_ | with_reducible refine w_ct ?_ | with_reducible refine w_brk ?_ | with_reducible refine y_f2 ?_ | with_reducible refine y_C ?_ | with_reducible refine y_var (by with_unfolding_all exact rfl) ?_ | with_reducible refine y_f1 ?_ | with_reducible refine y_B ?_ | with_reducible refine y_unB ?_ | with_reducible refine y_ch ?_ | with_reducible refine y_tru ?_ | with_reducible refine y_tbl ?_ | with_reducible refine y_and ?_ | with_reducible refine y_or ?_ | with_reducible refine y_not ?_ | with_reducible refine y_andV ?_ | with_reducible refine y_notV ?_ | with_reducible refine y_nil ?_ | with_reducible refine y_cons ?_ | with_reducible refine y_tup ?_ | with_reducible refine y_lst ?_ | with_reducible refine y_val ?_ | with_reducible refine y_loc ?_ | with_reducible refine y_dval ?_ | with_reducible refine y_dloc ?_ | with_reducible refine y_ice ?_ | with_reducible refine y_oNone ?_ | with_reducible refine y_oSome ?_ | with_reducible refine y_sl ?_ | with_reducible refine y_A ?_ | with_reducible refine y_call ?_ | with_reducible refine y_M ?_ | with_reducible refine y_aComp ?_ | with_reducible refine y_rng1 ?_ | with_reducible refine y_over ?_ | with_reducible refine y_addI ?_ | with_reducible refine y_subI ?_ | with_reducible refine y_ltI ?_ | with_reducible refine y_leI ?_ | with_reducible refine y_gtI ?_ | with_reducible refine y_geI ?_ | with_reducible refine y_eqI ?_ | with_reducible refine y_neI ?_ | with_reducible refine y_eqB ?_ | with_reducible refine y_neB ?_ | with_reducible refine y_eqS ?_ | with_reducible refine y_neS ?_ | with_reducible refine y_isN ?_ | with_reducible refine y_isnN ?_ | with_reducible refine y_wget ?_ | with_reducible refine And.intro (len_ok (by with_unfolding_all exact rfl)) ?_))
  refine y_addT (by rw [sizeL, List.length_singleton]; omega) ?_
  (repeat (first | with_reducible refine w_seq ?_ | with_reducible refine w_set ?_ | with_reducible refine w_expr ?_ | with_reducible refine w_ret ?_ | with_reducible refine w_retN ?_ | with_reducible refine w_store ?_ | with_reducible refine w_nop ?_ | with_reducible refine w_for ?_ | with_reducible refine w_asg ?_ | with_reducible refine w_ct ?_ | with_reducible refine w_brk ?_ | with_reducible refine y_f2 ?_ | with_reducible refine y_C ?_ | with_reducible refine y_var (by with_unfolding_all exact rfl) ?_ | with_reducible refine y_f1 ?_ | with_reducible refine y_B ?_ | with_reducible refine y_unB ?_ | with_reducible refine y_ch ?_ | with_reducible refine y_tru ?_ | with_reducible refine y_tbl ?_ | with_reducible refine y_and ?_ | with_reducible refine y_or ?_ | with_reducible refine y_not ?_ | with_reducible refine y_andV ?_ | with_reducible refine y_notV ?_ | with_reducible refine y_nil ?_ | with_reducible refine y_cons ?_ | with_reducible refine y_tup ?_ | with_reducible refine y_lst ?_ | with_reducible refine y_val ?_ | with_reducible refine y_loc ?_ | with_reducible refine y_dval ?_ | with_reducible refine y_dloc ?_ | with_reducible refine y_ice ?_ | with_reducible refine y_oNone ?_ | with_reducible refine y_oSome ?_ | with_reducible refine y_sl ?_ | with_reducible refine y_A ?_ | with_reducible refine y_call ?_ | with_reducible refine y_M ?_ | with_reducible refine y_aComp ?_ | with_reducible refine y_rng1 ?_ | with_reducible refine y_over ?_ | with_reducible refine y_addI ?_ | with_reducible refine y_subI ?_ | with_reducible refine y_ltI ?_ | with_reducible refine y_leI ?_ | with_reducible refine y_gtI ?_ | with_reducible refine y_geI ?_ | with_reducible refine y_eqI ?_ | with_reducible refine y_neI ?_ | with_reducible refine y_eqB ?_ | with_reducible refine y_neB ?_ | with_reducible refine y_eqS ?_ | with_reducible refine y_neS ?_ | with_reducible refine y_isN ?_ | with_reducible refine y_isnN ?_ | with_reducible refine y_wget ?_ | with_reducible refine And.intro (len_ok (by with_unfolding_all exact rfl)) ?_))
  refine y_listT ?_
  (repeat (first | with_reducible refine w_seq ?_ | with_reducible refine w_set ?_ | with_reducible refine w_expr ?_ | with_reducible refine w_ret ?_ | with_reducible refine w_retN ?_ | with_reducible refine w_store ?_ | with_reducible refine w_nop ?_ | with_reducible refine w_for ?_ | with_reducible refine w_asg ?_ | with_reducible refine w_ct ?_ | with_reducible refine w_brk ?_ | with_reducible refine y_f2 ?_ | with_reducible refine y_C ?_ | with_reducible refine y_var (by with_unfolding_all exact rfl) ?_ | with_reducible refine y_f1 ?_ | with_reducible refine y_B ?_ | with_reducible refine y_unB ?_ | with_reducible refine y_ch ?_ | with_reducible refine y_tru ?_ | with_reducible refine y_tbl ?_ | with_reducible refine y_and ?_ | with_reducible refine y_or ?_ | with_reducible refine y_not ?_ | with_reducible refine y_andV ?_ | with_reducible refine y_notV ?_ | with_reducible refine y_nil ?_ | with_reducible refine y_cons ?_ | with_reducible refine y_tup ?_ | with_reducible refine y_lst ?_ | with_reducible refine y_val ?_ | with_reducible refine y_loc ?_ | with_reducible refine y_dval ?_ | with_reducible refine y_dloc ?_ | with_reducible refine y_ice ?_ | with_reducible refine y_oNone ?_ | with_reducible refine y_oSome ?_ | with_reducible refine y_sl ?_ | with_reducible refine y_A ?_ | with_reducible refine y_call ?_ | with_reducible refine y_M ?_ | with_reducible refine y_aComp ?_ | with_reducible refine y_rng1 ?_ | with_reducible refine y_over ?_ | with_reducible refine y_addI ?_ | with_reducible refine y_subI ?_ | with_reducible refine y_ltI ?_ | with_reducible refine y_leI ?_ | with_reducible refine y_gtI ?_ | with_reducible refine y_geI ?_ | with_reducible refine y_eqI ?_ | with_reducible refine y_neI ?_ | with_reducible refine y_eqB ?_ | with_reducible refine y_neB ?_ | with_reducible refine y_eqS ?_ | with_reducible refine y_neS ?_ | with_reducible refine y_isN ?_ | with_reducible refine y_isnN ?_ | with_reducible refine y_wget ?_ | with_reducible refine And.intro (len_ok (by with_unfolding_all exact rfl)) ?_))
  refine y_addL (len_ok (by with_unfolding_all exact rfl)) ?_
  (repeat (first | with_reducible refine w_seq ?_ | with_reducible refine w_set ?_ | with_reducible refine w_expr ?_ | with_reducible refine w_ret ?_ | with_reducible refine w_retN ?_ | with_reducible refine w_store ?_ | with_reducible refine w_nop ?_ | with_reducible refine w_for ?_ | with_reducible refine w_asg ?_ | with_reducible refine w_ct ?_ | with_reducible refine w_brk ?_ | with_reducible refine y_f2 ?_ | with_reducible refine y_C ?_ | with_reducible refine y_var (by with_unfolding_all exact rfl) ?_ | with_reducible refine y_f1 ?_ | with_reducible refine y_B ?_ | with_reducible refine y_unB ?_ | with_reducible refine y_ch ?_ | with_reducible refine y_tru ?_ | with_reducible refine y_tbl ?_ | with_reducible refine y_and ?_ | with_reducible refine y_or ?_ | with_reducible refine y_not ?_ | with_reducible refine y_andV ?_ | with_reducible refine y_notV ?_ | with_reducible refine y_nil ?_ | with_reducible refine y_cons ?_ | with_reducible refine y_tup ?_ | with_reducible refine y_lst ?_ | with_reducible refine y_val ?_ | with_reducible refine y_loc ?_ | with_reducible refine y_dval ?_ | with_reducible refine y_dloc ?_ | with_reducible refine y_ice ?_ | with_reducible refine y_oNone ?_ | with_reducible refine y_oSome ?_ | with_reducible refine y_sl ?_ | with_reducible refine y_A ?_ | with_reducible refine y_call ?_ | with_reducible refine y_M ?_ | with_reducible refine y_aComp ?_ | with_reducible refine y_rng1 ?_ | with_reducible refine y_over ?_ | with_reducible refine y_addI ?_ | with_reducible refine y_subI ?_ | with_reducible refine y_ltI ?_ | with_reducible refine y_leI ?_ | with_reducible refine y_gtI ?_ | with_reducible refine y_geI ?_ | with_reducible refine y_eqI ?_ | with_reducible refine y_neI ?_ | with_reducible refine y_eqB ?_ | with_reducible refine y_neB ?_ | with_reducible refine y_eqS ?_ | with_reducible refine y_neS ?_ | with_reducible refine y_isN ?_ | with_reducible refine y_isnN ?_ | with_reducible refine y_wget ?_ | with_reducible refine And.intro (len_ok (by with_unfolding_all exact rfl)) ?_))
  refine ⟨rfl, (draw t3 (by omega) (by first | decide | omega) (by first | decide | omega)).mono ?_⟩; rintro _ S4 ⟨r4, rfl, r40, r41, t4, l4, f4⟩
  refine y_ixL r40 r41 fun u hu _ => ?_
  refine ⟨?_, t4.mono (by omega), f1.trans (f2.trans (f3.trans f4))⟩
  have up : ∀ {u : U}, Pl c e u → Pl (c + 1) (e + 3) u := fun h => h.ups (by omega) (by omega)
  have pv : Pl (c + 1) (e + 3) v := pv
  have hu : u = .tup (us.take j ++ [v] ++ us.drop (j + 1)) ∨ u = .tup (us.take j ++ us.drop (j + 1)) ∨ u = .tup (us ++ [.tup [.str "yes"]]) ∨ u = .lst us := by
    rcases List.mem_append.mp hu with h | h
    · left
      obtain ⟨l, hl, h⟩ := List.mem_flatten.mp h
      rw [(List.mem_replicate.mp hl).2] at h
      exact List.mem_singleton.mp h
    · simp only [List.mem_cons, List.mem_nil_iff, or_false] at h
      exact .inr h
  rcases hu with rfl | rfl | rfl | rfl
  · refine ⟨by rw [List.length_append, List.length_append, lpre, lsuf, List.length_singleton]; omega, fun u hu => ?_⟩
    rcases List.mem_append.mp hu with h | h
    · rcases List.mem_append.mp h with h | h
      · exact up (pre u h)
      · rw [List.mem_singleton.mp h]; exact pv
    · exact up (suf u h)
  · refine ⟨by rw [List.length_append, lpre, lsuf]; omega, fun u hu => ?_⟩
    rcases List.mem_append.mp hu with h | h
    · exact up (pre u h)
    · exact up (suf u h)
  · refine ⟨by rw [List.length_append, List.length_singleton]; omega, fun u hu => ?_⟩
    rcases List.mem_append.mp hu with h | h
    · exact up (pus u h)
    · rw [List.mem_singleton.mp h]; exact py.ups (by omega) (by omega)
  · exact ⟨by omega, fun u hu => up (pus u hu)⟩
theorem bent {n c : Nat} (hc : 3 ≤ c) (hc2 : c ≤ 1000) : ∀ (m k : Nat) {b : Int} {x : U} {S : Sto}, m ≤ 60 → Tape n b S → b + 150 * (m + 1) ≤ 2 ^ 100 → Pl c m x → Y (call (m + k + 3) i_law_bent [.loc n, x] S) (BentP n c m b S)
  | 0, k, b, x, S, hm, t, hb, px => bent_step hc hc2 0 (0 + k) hm t hb px fun e he => by cases he
  | m + 1, k, b, x, S, hm, t, hb, px => by
    have := bent_step hc hc2 (m + 1) (m + k + 1) hm t hb px fun e he b x S t hb px => by
      cases he
      exact bent hc hc2 m k (by omega) t hb px
    rw [show m + 1 + k + 3 = m + k + 1 + 3 from by omega]
    exact this

end Law

set_option Elab.async false
set_option linter.all false
set_option maxRecDepth 100000
set_option maxHeartbeats 2000000
namespace Law
open PySem PySem.Spec L2 DL
/-! ### long things -/
theorem long {k n : Nat} {b : Int} {w : Str} {S : Sto} (t0 : Tape n b S) (hb : b + 1000 ≤ 2 ^ 100) (hw : PyData.strOk w = true ∧ w.length ≤ sizeLine) :
    Y (call (k + 2) i_law_long [.loc n, .str w] S) fun u S' => Pl 3 30 u ∧ Tape n (b + 1000) S' ∧ Fr [n] S S' := by
  refine y_run ?_
  show WS (b_law_long (call (k + 1)) [some (.loc n), some (.str w), none, none, none, none, none, none] S) _
  have pn : Pl 3 1 (.tup [.str "name", .str w]) := ⟨(by decide : 2 ≤ 3), fun u hu => by
    simp only [List.mem_cons, List.mem_nil_iff, or_false] at hu
    rcases hu with rfl | rfl
    · exact plB_ok (by decide +kernel)
    · exact Pl.strs hw⟩
  unfold b_law_long
  (repeat (first | with_reducible refine w_seq ?_ | with_reducible refine w_set ?_ | with_reducible refine w_expr ?_ | with_reducible refine w_ret ?_ | with_reducible refine w_retN ?_ | with_reducible refine w_store ?_ | with_reducible refine w_nop ?_ | with_reducible refine w_for ?_ | with_reducible refine w_asg ?_ | with_reducible refine w_ct ?_ | with_reducible refine w_brk ?_ | with_reducible refine y_f2 ?_ | with_reducible refine y_C ?_ | with_reducible refine y_var (by with_unfolding_all exact rfl) ?_ | with_reducible refine y_f1 ?_ | with_reducible refine y_B ?_ | with_reducible refine y_unB ?_ | with_reducible refine y_ch ?_ | with_reducible refine y_tru ?_ | with_reducible refine y_tbl ?_ | with_reducible refine y_and ?_ | with_reducible refine y_or ?_ | with_reducible refine y_not ?_ | with_reducible refine y_andV ?_ | with_reducible refine y_notV ?_ | with_reducible refine y_nil ?_ | with_reducible refine y_cons ?_ | with_reducible refine y_tup ?_ | with_reducible refine y_lst ?_ | with_reducible refine y_val ?_ | with_reducible refine y_loc ?_ | with_reducible refine y_dval ?_ | with_reducible refine y_dloc ?_ | with_reducible refine y_ice ?_ | with_reducible refine y_oNone ?_ | with_reducible refine y_oSome ?_ | with_reducible refine y_sl ?_ | with_reducible refine y_A ?_ | with_reducible refine y_call ?_ | with_reducible refine y_M ?_ | with_reducible refine y_aComp ?_ | with_reducible refine y_rng1 ?_ | with_reducible refine y_over ?_ | with_reducible refine y_addI ?_ | with_reducible refine y_subI ?_ | with_reducible refine y_ltI ?_ | with_reducible refine y_leI ?_ | with_reducible refine y_gtI ?_ | with_reducible refine y_geI ?_ | with_reducible refine y_eqI ?_ | with_reducible refine y_neI ?_ | with_reducible refine y_eqB ?_ | with_reducible refine y_neB ?_ | with_reducible refine y_eqS ?_ | with_reducible refine y_neS ?_ | with_reducible refine y_isN ?_ | with_reducible refine y_isnN ?_ | with_reducible refine y_wget ?_ | with_reducible refine And.intro (len_ok (by with_unfolding_all exact rfl)) ?_))
  refine ⟨rfl, (draw t0 (by omega) (by first | decide | omega) (by first | decide | omega)).mono ?_⟩; rintro _ S1 ⟨r1, rfl, r10, r11, t1, l1, f1⟩
  (repeat (first | with_reducible refine w_seq ?_ | with_reducible refine w_set ?_ | with_reducible refine w_expr ?_ | with_reducible refine w_ret ?_ | with_reducible refine w_retN ?_ | with_reducible refine w_store ?_ | with_reducible refine w_nop ?_ | with_reducible refine w_for ?_ | with_reducible refine w_asg ?_ | with_reducible refine w_ct ?_ | with_reducible refine w_brk ?_ | with_reducible refine y_f2 ?_ | with_reducible refine y_C ?_ | with_reducible refine y_var (by with_unfolding_all exact rfl) ?_ | with_reducible refine y_f1 ?_ | with_reducible refine y_B ?_ | with_reducible refine y_unB ?_ | with_reducible refine y_ch ?_ | with_reducible refine y_tru ?_ | with_reducible refine y_tbl ?_ | with_reducible refine y_and ?_ | with_reducible refine y_or ?_ | with_reducible refine y_not ?_ | with_reducible refine y_andV ?_ | with_reducible refine y_notV ?_ | with_reducible refine y_nil ?_ | with_reducible refine y_cons ?_ | with_reducible refine y_tup ?_ | with_reducible refine y_lst ?_ | with_reducible refine y_val ?_ | with_reducible refine y_loc ?_ | with_reducible refine y_dval ?_ | with_reducible refine y_dloc ?_ | with_reducible refine y_ice ?_ | with_reducible refine y_oNone ?_ | with_reducible refine y_oSome ?_ | with_reducible refine y_sl ?_ | with_reducible refine y_A ?_ | with_reducible refine y_call ?_ | with_reducible refine y_M ?_ | with_reducible refine y_aComp ?_ | with_reducible refine y_rng1 ?_ | with_reducible refine y_over ?_ | with_reducible refine y_addI ?_ | with_reducible refine y_subI ?_ | with_reducible refine y_ltI ?_ | with_reducible refine y_leI ?_ | with_reducible refine y_gtI ?_ | with_reducible refine y_geI ?_ | with_reducible refine y_eqI ?_ | with_reducible refine y_neI ?_ | with_reducible refine y_eqB ?_ | with_reducible refine y_neB ?_ | with_reducible refine y_eqS ?_ | with_reducible refine y_neS ?_ | with_reducible refine y_isN ?_ | with_reducible refine y_isnN ?_ | with_reducible refine y_wget ?_ | with_reducible refine And.intro (len_ok (by with_unfolding_all exact rfl)) ?_))
  refine ⟨rfl, (draw t1 (by omega) (by first | decide | omega) (by first | decide | omega)).mono ?_⟩; rintro _ S2 ⟨r2, rfl, r20, r21, t2, l2, f2⟩
  (repeat (first | with_reducible refine w_seq ?_ | with_reducible refine w_set ?_ | with_reducible refine w_expr ?_ | with_reducible refine w_ret ?_ | with_reducible refine w_retN ?_ | with_reducible refine w_store ?_ | with_reducible refine w_nop ?_ | with_reducible refine w_for ?_ | with_reducible refine w_asg ?_ | with_reducible refine w_ct ?_ | with_reducible refine w_brk ?_ | with_reducible refine y_f2 ?_ | with_reducible refine y_C ?_ | with_reducible refine y_var (by with_unfolding_all exact rfl) ?_ | with_reducible refine y_f1 ?_ | with_reducible refine y_B ?_ | with_reducible refine y_unB ?_ | with_reducible refine y_ch ?_ | with_reducible refine y_tru ?_ | with_reducible refine y_tbl ?_ | with_reducible refine y_and ?_ | with_reducible refine y_or ?_ | with_reducible refine y_not ?_ | with_reducible refine y_andV ?_ | with_reducible refine y_notV ?_ | with_reducible refine y_nil ?_ | with_reducible refine y_cons ?_ | with_reducible refine y_tup ?_ | with_reducible refine y_lst ?_ | with_reducible refine y_val ?_ | with_reducible refine y_loc ?_ | with_reducible refine y_dval ?_ | with_reducible refine y_dloc ?_ | with_reducible refine y_ice ?_ | with_reducible refine y_oNone ?_ | with_reducible refine y_oSome ?_ | with_reducible refine y_sl ?_ | with_reducible refine y_A ?_ | with_reducible refine y_call ?_ | with_reducible refine y_M ?_ | with_reducible refine y_aComp ?_ | with_reducible refine y_rng1 ?_ | with_reducible refine y_over ?_ | with_reducible refine y_addI ?_ | with_reducible refine y_subI ?_ | with_reducible refine y_ltI ?_ | with_reducible refine y_leI ?_ | with_reducible refine y_gtI ?_ | with_reducible refine y_geI ?_ | with_reducible refine y_eqI ?_ | with_reducible refine y_neI ?_ | with_reducible refine y_eqB ?_ | with_reducible refine y_neB ?_ | with_reducible refine y_eqS ?_ | with_reducible refine y_neS ?_ | with_reducible refine y_isN ?_ | with_reducible refine y_isnN ?_ | with_reducible refine y_wget ?_ | with_reducible refine And.intro (len_ok (by with_unfolding_all exact rfl)) ?_))
  refine w_if ?_
  (repeat (first | with_reducible refine w_seq ?_ | with_reducible refine w_set ?_ | with_reducible refine w_expr ?_ | with_reducible refine w_ret ?_ | with_reducible refine w_retN ?_ | with_reducible refine w_store ?_ | with_reducible refine w_nop ?_ | with_reducible refine w_for ?_ | with_reducible refine w_asg ?_ | with_reducible refine w_ct ?_ | with_reducible refine w_brk ?_ | with_reducible refine y_f2 ?_ | with_reducible refine y_C ?_ | with_reducible refine y_var (by with_unfolding_all exact rfl) ?_ | with_reducible refine y_f1 ?_ | with_reducible refine y_B ?_ | with_reducible refine y_unB ?_ | with_reducible refine y_ch ?_ | with_reducible refine y_tru ?_ | with_reducible refine y_tbl ?_ | with_reducible refine y_and ?_ | with_reducible refine y_or ?_ | with_reducible refine y_not ?_ | with_reducible refine y_andV ?_ | with_reducible refine y_notV ?_ | with_reducible refine y_nil ?_ | with_reducible refine y_cons ?_ | with_reducible refine y_tup ?_ | with_reducible refine y_lst ?_ | with_reducible refine y_val ?_ | with_reducible refine y_loc ?_ | with_reducible refine y_dval ?_ | with_reducible refine y_dloc ?_ | with_reducible refine y_ice ?_ | with_reducible refine y_oNone ?_ | with_reducible refine y_oSome ?_ | with_reducible refine y_sl ?_ | with_reducible refine y_A ?_ | with_reducible refine y_call ?_ | with_reducible refine y_M ?_ | with_reducible refine y_aComp ?_ | with_reducible refine y_rng1 ?_ | with_reducible refine y_over ?_ | with_reducible refine y_addI ?_ | with_reducible refine y_subI ?_ | with_reducible refine y_ltI ?_ | with_reducible refine y_leI ?_ | with_reducible refine y_gtI ?_ | with_reducible refine y_geI ?_ | with_reducible refine y_eqI ?_ | with_reducible refine y_neI ?_ | with_reducible refine y_eqB ?_ | with_reducible refine y_neB ?_ | with_reducible refine y_eqS ?_ | with_reducible refine y_neS ?_ | with_reducible refine y_isN ?_ | with_reducible refine y_isnN ?_ | with_reducible refine y_wget ?_ | with_reducible refine And.intro (len_ok (by with_unfolding_all exact rfl)) ?_))
  refine ite_b (fun c1 => ?_) (fun c1 => ?_)
  · (repeat (first | with_reducible refine w_seq ?_ | with_reducible refine w_set ?_ | with_reducible refine w_expr ?_ | with_reducible refine w_ret ?_ | with_reducible refine w_retN ?_ | with_reducible refine w_store ?_ | with_reducible refine w_nop ?_ | with_reducible refine w_for ?_ | with_reducible refine w_asg ?_ | with_reducible refine w_ct ?_ | with_reducible refine w_brk ?_ | with_reducible refine y_f2 ?_ | with_reducible refine y_C ?_ | with_reducible refine y_var (by with_unfolding_all exact rfl) ?_ | with_reducible refine y_f1 ?_ | with_reducible refine y_B ?_ | with_reducible refine y_unB ?_ | with_reducible refine y_ch ?_ | with_reducible refine y_tru ?_ | with_reducible refine y_tbl ?_ | with_reducible refine y_and ?_ | with_reducible refine y_or ?_ | with_reducible refine y_not ?_ | with_reducible refine y_andV ?_ | with_reducible refine y_notV ?_ | with_reducible refine y_nil ?_ | with_reducible refine y_cons ?_ | with_reducible refine y_tup ?_ | with_reducible refine y_lst ?_ | with_reducible refine y_val ?_ | with_reducible refine y_loc ?_ | with_reducible refine y_dval ?_ | with_reducible refine y_dloc ?_ | with_reducible refine y_ice ?_ | with_reducible refine y_oNone ?_ | with_reducible refine y_oSome ?_ | with_reducible refine y_sl ?_ | with_reducible refine y_A ?_ | with_reducible refine y_call ?_ | with_reducible refine y_M ?_ | with_reducible refine y_aComp ?_ | with_reducible refine y_rng1 ?_ | with_reducible refine y_over ?_ | with_reducible refine y_addI ?_ | with_reducible refine y_subI ?_ | with_reducible refine y_ltI ?_ | with_reducible refine y_leI ?_ | with_reducible refine y_gtI ?_ | with_reducible refine y_geI ?_ | with_reducible refine y_eqI ?_ | with_reducible refine y_neI ?_ | with_reducible refine y_eqB ?_ | with_reducible refine y_neB ?_ | with_reducible refine y_eqS ?_ | with_reducible refine y_neS ?_ | with_reducible refine y_isN ?_ | with_reducible refine y_isnN ?_ | with_reducible refine y_wget ?_ | with_reducible refine And.intro (len_ok (by with_unfolding_all exact rfl)) ?_))
    refine ⟨_, rfl, by omega, by omega, ?_⟩
    refine w_loop (fun us d S3 => ∃ (m : Nat) (x : U) (x6 : Option U), d = [some (.loc n), some (.str w), some (.int r1), some (.int (24 + r2)), some x, none, x6, none] ∧ us.length + m = (24 + r2 - 1).toNat ∧ Pl 3 (m + 1) x ∧ Tape n (b + 60 + 30 * m) S3 ∧ Fr [n] S S3) ?_ ?_ _ _ _ ?_
    · rintro u us _ S3 ⟨m, x, x6, rfl, hm, px, t3, f3⟩
      rw [List.length_cons] at hm
      refine ⟨_, rfl, ?_⟩
      (repeat (first | with_reducible refine w_seq ?_ | with_reducible refine w_set ?_ | with_reducible refine w_expr ?_ | with_reducible refine w_ret ?_ | with_reducible refine w_retN ?_ | with_reducible refine w_store ?_ | with_reducible refine w_nop ?_ | with_reducible refine w_for ?_ | with_reducible refine w_asg ?_ | with_reducible refine w_ct ?_ | with_reducible refine w_brk ?_ | with_reducible refine y_f2 ?_ | with_reducible refine y_C ?_ | with_reducible refine y_var (by with_unfolding_all exact rfl) ?_ | with_reducible refine y_f1 ?_ | with_reducible refine y_B ?_ | with_reducible refine y_unB ?_ | with_reducible refine y_ch ?_ | with_reducible refine y_tru ?_ | with_reducible refine y_tbl ?_ | with_reducible refine y_and ?_ | with_reducible refine y_or ?_ | with_reducible refine y_not ?_ | with_reducible refine y_andV ?_ | with_reducible refine y_notV ?_ | with_reducible refine y_nil ?_ | with_reducible refine y_cons ?_ | with_reducible refine y_tup ?_ | with_reducible refine y_lst ?_ | with_reducible refine y_val ?_ | with_reducible refine y_loc ?_ | with_reducible refine y_dval ?_ | with_reducible refine y_dloc ?_ | with_reducible refine y_ice ?_ | with_reducible refine y_oNone ?_ | with_reducible refine y_oSome ?_ | with_reducible refine y_sl ?_ | with_reducible refine y_A ?_ | with_reducible refine y_call ?_ | with_reducible refine y_M ?_ | with_reducible refine y_aComp ?_ | with_reducible refine y_rng1 ?_ | with_reducible refine y_over ?_ | with_reducible refine y_addI ?_ | with_reducible refine y_subI ?_ | with_reducible refine y_ltI ?_ | with_reducible refine y_leI ?_ | with_reducible refine y_gtI ?_ | with_reducible refine y_geI ?_ | with_reducible refine y_eqI ?_ | with_reducible refine y_neI ?_ | with_reducible refine y_eqB ?_ | with_reducible refine y_neB ?_ | with_reducible refine y_eqS ?_ | with_reducible refine y_neS ?_ | with_reducible refine y_isN ?_ | with_reducible refine y_isnN ?_ | with_reducible refine y_wget ?_ | with_reducible refine And.intro (len_ok (by with_unfolding_all exact rfl)) ?_))
      refine ⟨rfl, (draw t3 (by omega) (by first | decide | omega) (by first | decide | omega)).mono ?_⟩; rintro _ S4 ⟨r4, rfl, r40, r41, t4, l4, f4⟩
      refine y_ixL r40 r41 fun v hv _ => ?_
      refine ⟨m + 1, v, _, rfl, by omega, ?_, t4.mono (by omega), f3.trans f4⟩
      have p1 : ∀ {u : U}, plB 3 1 u = true → Pl 3 (m + 1) u := fun h => (plB_ok h).up (by omega)
      simp only [List.mem_cons, List.mem_nil_iff, or_false] at hv
      rcases hv with rfl | rfl | rfl
      · refine ⟨(by decide : 2 ≤ 3), fun u hu => ?_⟩
        simp only [List.mem_cons, List.mem_nil_iff, or_false] at hu
        rcases hu with rfl | rfl
        · exact p1 (by decide +kernel)
        · exact px
      · refine ⟨(by decide : 3 ≤ 3), fun u hu => ?_⟩
        simp only [List.mem_cons, List.mem_nil_iff, or_false] at hu
        rcases hu with rfl | rfl | rfl
        · exact p1 (by decide +kernel)
        · exact px
        · exact p1 (by decide +kernel)
      · refine ⟨(by decide : 3 ≤ 3), fun u hu => ?_⟩
        simp only [List.mem_cons, List.mem_nil_iff, or_false] at hu
        rcases hu with rfl | rfl | rfl
        · exact p1 (by decide +kernel)
        · exact p1 (by decide +kernel)
        · exact px
    · rintro d S3 ⟨m, x, x6, rfl, hm, px, t3, f3⟩
      rw [List.length_nil] at hm
      (repeat (first | with_reducible refine w_seq ?_ | with_reducible refine w_set ?_ | with_reducible refine w_expr ?_ | with_reducible refine w_ret ?_ | with_reducible refine w_retN ?_ | with_reducible refine w_store ?_ | with_reducible refine w_nop ?_ | with_reducible refine w_for ?_ | with_reducible refine w_asg ?_ | with_reducible refine w_ct ?_ | with_reducible refine w_brk ?_ | with_reducible refine y_f2 ?_ | with_reducible refine y_C ?_ | with_reducible refine y_var (by with_unfolding_all exact rfl) ?_ | with_reducible refine y_f1 ?_ | with_reducible refine y_B ?_ | with_reducible refine y_unB ?_ | with_reducible refine y_ch ?_ | with_reducible refine y_tru ?_ | with_reducible refine y_tbl ?_ | with_reducible refine y_and ?_ | with_reducible refine y_or ?_ | with_reducible refine y_not ?_ | with_reducible refine y_andV ?_ | with_reducible refine y_notV ?_ | with_reducible refine y_nil ?_ | with_reducible refine y_cons ?_ | with_reducible refine y_tup ?_ | with_reducible refine y_lst ?_ | with_reducible refine y_val ?_ | with_reducible refine y_loc ?_ | with_reducible refine y_dval ?_ | with_reducible refine y_dloc ?_ | with_reducible refine y_ice ?_ | with_reducible refine y_oNone ?_ | with_reducible refine y_oSome ?_ | with_reducible refine y_sl ?_ | with_reducible refine y_A ?_ | with_reducible refine y_call ?_ | with_reducible refine y_M ?_ | with_reducible refine y_aComp ?_ | with_reducible refine y_rng1 ?_ | with_reducible refine y_over ?_ | with_reducible refine y_addI ?_ | with_reducible refine y_subI ?_ | with_reducible refine y_ltI ?_ | with_reducible refine y_leI ?_ | with_reducible refine y_gtI ?_ | with_reducible refine y_geI ?_ | with_reducible refine y_eqI ?_ | with_reducible refine y_neI ?_ | with_reducible refine y_eqB ?_ | with_reducible refine y_neB ?_ | with_reducible refine y_eqS ?_ | with_reducible refine y_neS ?_ | with_reducible refine y_isN ?_ | with_reducible refine y_isnN ?_ | with_reducible refine y_wget ?_ | with_reducible refine And.intro (len_ok (by with_unfolding_all exact rfl)) ?_))
      exact ⟨px.up (by omega), t3.mono (by omega), f3⟩
    · exact ⟨0, _, _, rfl, by rw [rng_len]; omega, pn, t2.mono (by omega), f1.trans f2⟩
  (repeat (first | with_reducible refine w_seq ?_ | with_reducible refine w_set ?_ | with_reducible refine w_expr ?_ | with_reducible refine w_ret ?_ | with_reducible refine w_retN ?_ | with_reducible refine w_store ?_ | with_reducible refine w_nop ?_ | with_reducible refine w_for ?_ | with_reducible refine w_asg ?_ | with_reducible refine w_ct ?_ | with_reducible refine w_brk ?_ | with_reducible refine y_f2 ?_ | with_reducible refine y_C ?_ | with_reducible refine y_var (by with_unfolding_all exact rfl) ?_ | with_reducible refine y_f1 ?_ | with_reducible refine y_B ?_ | with_reducible refine y_unB ?_ | with_reducible refine y_ch ?_ | with_reducible refine y_tru ?_ | with_reducible refine y_tbl ?_ | with_reducible refine y_and ?_ | with_reducible refine y_or ?_ | with_reducible refine y_not ?_ | with_reducible refine y_andV ?_ | with_reducible refine y_notV ?_ | with_reducible refine y_nil ?_ | with_reducible refine y_cons ?_ | with_reducible refine y_tup ?_ | with_reducible refine y_lst ?_ | with_reducible refine y_val ?_ | with_reducible refine y_loc ?_ | with_reducible refine y_dval ?_ | with_reducible refine y_dloc ?_ | with_reducible refine y_ice ?_ | with_reducible refine y_oNone ?_ | with_reducible refine y_oSome ?_ | with_reducible refine y_sl ?_ | with_reducible refine y_A ?_ | with_reducible refine y_call ?_ | with_reducible refine y_M ?_ | with_reducible refine y_aComp ?_ | with_reducible refine y_rng1 ?_ | with_reducible refine y_over ?_ | with_reducible refine y_addI ?_ | with_reducible refine y_subI ?_ | with_reducible refine y_ltI ?_ | with_reducible refine y_leI ?_ | with_reducible refine y_gtI ?_ | with_reducible refine y_geI ?_ | with_reducible refine y_eqI ?_ | with_reducible refine y_neI ?_ | with_reducible refine y_eqB ?_ | with_reducible refine y_neB ?_ | with_reducible refine y_eqS ?_ | with_reducible refine y_neS ?_ | with_reducible refine y_isN ?_ | with_reducible refine y_isnN ?_ | with_reducible refine y_wget ?_ | with_reducible refine And.intro (len_ok (by with_unfolding_all exact rfl)) ?_))
  refine ⟨rfl, (draw t2 (by omega) (by first | decide | omega) (by first | decide | omega)).mono ?_⟩; rintro _ S3 ⟨r3, rfl, r30, r31, t3, l3, f3⟩
  (repeat (first | with_reducible refine w_seq ?_ | with_reducible refine w_set ?_ | with_reducible refine w_expr ?_ | with_reducible refine w_ret ?_ | with_reducible refine w_retN ?_ | with_reducible refine w_store ?_ | with_reducible refine w_nop ?_ | with_reducible refine w_for ?_ | with_reducible refine w_asg ?_ | with_reducible refine w_ct ?_ | with_reducible refine w_brk ?_ | with_reducible refine y_f2 ?_ | with_reducible refine y_C ?_ | with_reducible refine y_var (by with_unfolding_all exact rfl) ?_ | with_reducible refine y_f1 ?_ | with_reducible refine y_B ?_ | with_reducible refine y_unB ?_ | with_reducible refine y_ch ?_ | with_reducible refine y_tru ?_ | with_reducible refine y_tbl ?_ | with_reducible refine y_and ?_ | with_reducible refine y_or ?_ | with_reducible refine y_not ?_ | with_reducible refine y_andV ?_ | with_reducible refine y_notV ?_ | with_reducible refine y_nil ?_ | with_reducible refine y_cons ?_ | with_reducible refine y_tup ?_ | with_reducible refine y_lst ?_ | with_reducible refine y_val ?_ | with_reducible refine y_loc ?_ | with_reducible refine y_dval ?_ | with_reducible refine y_dloc ?_ | with_reducible refine y_ice ?_ | with_reducible refine y_oNone ?_ | with_reducible refine y_oSome ?_ | with_reducible refine y_sl ?_ | with_reducible refine y_A ?_ | with_reducible refine y_call ?_ | with_reducible refine y_M ?_ | with_reducible refine y_aComp ?_ | with_reducible refine y_rng1 ?_ | with_reducible refine y_over ?_ | with_reducible refine y_addI ?_ | with_reducible refine y_subI ?_ | with_reducible refine y_ltI ?_ | with_reducible refine y_leI ?_ | with_reducible refine y_gtI ?_ | with_reducible refine y_geI ?_ | with_reducible refine y_eqI ?_ | with_reducible refine y_neI ?_ | with_reducible refine y_eqB ?_ | with_reducible refine y_neB ?_ | with_reducible refine y_eqS ?_ | with_reducible refine y_neS ?_ | with_reducible refine y_isN ?_ | with_reducible refine y_isnN ?_ | with_reducible refine y_wget ?_ | with_reducible refine And.intro (len_ok (by with_unfolding_all exact rfl)) ?_))
  refine y_mulL (by omega) (by omega) (by rw [sizeL, List.length_singleton]; omega) ?_
  have hps : ∃ ps, (List.replicate (199 + r3).toNat [U.tup [.str "name", .str w]]).flatten = ps ∧ ps.length ≤ 256 ∧ 1 ≤ ps.length ∧ ∀ p ∈ ps, Pl 3 1 p := by
    refine ⟨_, rfl, ?_, ?_, ?_⟩
    · rw [List.length_flatten, List.map_replicate, List.sum_replicate_nat, List.length_singleton]; omega
    · rw [List.length_flatten, List.map_replicate, List.sum_replicate_nat, List.length_singleton]; omega
    · intro p hp
      obtain ⟨l, hl, hp⟩ := List.mem_flatten.mp hp
      rw [(List.mem_replicate.mp hl).2] at hp
      rw [List.mem_singleton.mp hp]
      exact pn
  obtain ⟨ps, eps, hp1, hp0, hpp⟩ := hps
  rw [eps]
  clear eps
  (repeat (first | with_reducible refine w_seq ?_ | with_reducible refine w_set ?_ | with_reducible refine w_expr ?_ | with_reducible refine w_ret ?_ | with_reducible refine w_retN ?_ | with_reducible refine w_store ?_ | with_reducible refine w_nop ?_ | with_reducible refine w_for ?_ | with_reducible refine w_asg ?_ | with_reducible refine w_ct ?_ | with_reducible refine w_brk ?_ | with_reducible refine y_f2 ?_ | with_reducible refine y_C ?_ | with_reducible refine y_var (by with_unfolding_all exact rfl) ?_ | with_reducible refine y_f1 ?_ | with_reducible refine y_B ?_ | with_reducible refine y_unB ?_ | with_reducible refine y_ch ?_ | with_reducible refine y_tru ?_ | with_reducible refine y_tbl ?_ | with_reducible refine y_and ?_ | with_reducible refine y_or ?_ | with_reducible refine y_not ?_ | with_reducible refine y_andV ?_ | with_reducible refine y_notV ?_ | with_reducible refine y_nil ?_ | with_reducible refine y_cons ?_ | with_reducible refine y_tup ?_ | with_reducible refine y_lst ?_ | with_reducible refine y_val ?_ | with_reducible refine y_loc ?_ | with_reducible refine y_dval ?_ | with_reducible refine y_dloc ?_ | with_reducible refine y_ice ?_ | with_reducible refine y_oNone ?_ | with_reducible refine y_oSome ?_ | with_reducible refine y_sl ?_ | with_reducible refine y_A ?_ | with_reducible refine y_call ?_ | with_reducible refine y_M ?_ | with_reducible refine y_aComp ?_ | with_reducible refine y_rng1 ?_ | with_reducible refine y_over ?_ | with_reducible refine y_addI ?_ | with_reducible refine y_subI ?_ | with_reducible refine y_ltI ?_ | with_reducible refine y_leI ?_ | with_reducible refine y_gtI ?_ | with_reducible refine y_geI ?_ | with_reducible refine y_eqI ?_ | with_reducible refine y_neI ?_ | with_reducible refine y_eqB ?_ | with_reducible refine y_neB ?_ | with_reducible refine y_eqS ?_ | with_reducible refine y_neS ?_ | with_reducible refine y_isN ?_ | with_reducible refine y_isnN ?_ | with_reducible refine y_wget ?_ | with_reducible refine And.intro (len_ok (by with_unfolding_all exact rfl)) ?_))
  refine w_while (fun m d S4 => S4 = S3 ∧ m ≤ 8 ∧ ∃ (ps : List U) (x6 x7 : Option U) (e : Nat), d = [some (.loc n), some (.str w), some (.int r1), some (.int (24 + r2)), some (.tup [.str "name", .str w]), some (.lst ps), x6, x7] ∧ e + m = 9 ∧ 1 ≤ ps.length ∧ ps.length ≤ 2 ^ m ∧ ∀ p ∈ ps, Pl 3 e p) ?_ 100 8 _ _ (by decide) ⟨rfl, Nat.le_refl _, ps, _, _, 1, rfl, rfl, hp0, hp1, hpp⟩
  clear hpp hp1 hp0 ps
  rintro m _ S4 ⟨e4, hm, ps, x6, x7, e, rfl, he, hp0, hp1, hpp⟩
  subst e4
  (repeat (first | with_reducible refine w_seq ?_ | with_reducible refine w_set ?_ | with_reducible refine w_expr ?_ | with_reducible refine w_ret ?_ | with_reducible refine w_retN ?_ | with_reducible refine w_store ?_ | with_reducible refine w_nop ?_ | with_reducible refine w_for ?_ | with_reducible refine w_asg ?_ | with_reducible refine w_ct ?_ | with_reducible refine w_brk ?_ | with_reducible refine y_f2 ?_ | with_reducible refine y_C ?_ | with_reducible refine y_var (by with_unfolding_all exact rfl) ?_ | with_reducible refine y_f1 ?_ | with_reducible refine y_B ?_ | with_reducible refine y_unB ?_ | with_reducible refine y_ch ?_ | with_reducible refine y_tru ?_ | with_reducible refine y_tbl ?_ | with_reducible refine y_and ?_ | with_reducible refine y_or ?_ | with_reducible refine y_not ?_ | with_reducible refine y_andV ?_ | with_reducible refine y_notV ?_ | with_reducible refine y_nil ?_ | with_reducible refine y_cons ?_ | with_reducible refine y_tup ?_ | with_reducible refine y_lst ?_ | with_reducible refine y_val ?_ | with_reducible refine y_loc ?_ | with_reducible refine y_dval ?_ | with_reducible refine y_dloc ?_ | with_reducible refine y_ice ?_ | with_reducible refine y_oNone ?_ | with_reducible refine y_oSome ?_ | with_reducible refine y_sl ?_ | with_reducible refine y_A ?_ | with_reducible refine y_call ?_ | with_reducible refine y_M ?_ | with_reducible refine y_aComp ?_ | with_reducible refine y_rng1 ?_ | with_reducible refine y_over ?_ | with_reducible refine y_addI ?_ | with_reducible refine y_subI ?_ | with_reducible refine y_ltI ?_ | with_reducible refine y_leI ?_ | with_reducible refine y_gtI ?_ | with_reducible refine y_geI ?_ | with_reducible refine y_eqI ?_ | with_reducible refine y_neI ?_ | with_reducible refine y_eqB ?_ | with_reducible refine y_neB ?_ | with_reducible refine y_eqS ?_ | with_reducible refine y_neS ?_ | with_reducible refine y_isN ?_ | with_reducible refine y_isnN ?_ | with_reducible refine y_wget ?_ | with_reducible refine And.intro (len_ok (by with_unfolding_all exact rfl)) ?_))
  with_reducible refine y_lenL ?_
  (repeat (first | with_reducible refine w_seq ?_ | with_reducible refine w_set ?_ | with_reducible refine w_expr ?_ | with_reducible refine w_ret ?_ | with_reducible refine w_retN ?_ | with_reducible refine w_store ?_ | with_reducible refine w_nop ?_ | with_reducible refine w_for ?_ | with_reducible refine w_asg ?_ | with_reducible refine w_ct ?_ | with_reducible refine w_brk ?_ | with_reducible refine y_f2 ?_ | with_reducible refine y_C ?_ | with_reducible refine y_var (by with_unfolding_all exact rfl) ?_ | with_reducible refine y_f1 ?_ | with_reducible refine y_B ?_ | with_reducible refine y_unB ?_ | with_reducible refine y_ch ?_ | with_reducible refine y_tru ?_ | with_reducible refine y_tbl ?_ | with_reducible refine y_and ?_ | with_reducible refine y_or ?_ | with_reducible refine y_not ?_ | with_reducible refine y_andV ?_ | with_reducible refine y_notV ?_ | with_reducible refine y_nil ?_ | with_reducible refine y_cons ?_ | with_reducible refine y_tup ?_ | with_reducible refine y_lst ?_ | with_reducible refine y_val ?_ | with_reducible refine y_loc ?_ | with_reducible refine y_dval ?_ | with_reducible refine y_dloc ?_ | with_reducible refine y_ice ?_ | with_reducible refine y_oNone ?_ | with_reducible refine y_oSome ?_ | with_reducible refine y_sl ?_ | with_reducible refine y_A ?_ | with_reducible refine y_call ?_ | with_reducible refine y_M ?_ | with_reducible refine y_aComp ?_ | with_reducible refine y_rng1 ?_ | with_reducible refine y_over ?_ | with_reducible refine y_addI ?_ | with_reducible refine y_subI ?_ | with_reducible refine y_ltI ?_ | with_reducible refine y_leI ?_ | with_reducible refine y_gtI ?_ | with_reducible refine y_geI ?_ | with_reducible refine y_eqI ?_ | with_reducible refine y_neI ?_ | with_reducible refine y_eqB ?_ | with_reducible refine y_neB ?_ | with_reducible refine y_eqS ?_ | with_reducible refine y_neS ?_ | with_reducible refine y_isN ?_ | with_reducible refine y_isnN ?_ | with_reducible refine y_wget ?_ | with_reducible refine And.intro (len_ok (by with_unfolding_all exact rfl)) ?_))
  refine ite_b (fun c2 => ?_) (fun c2 => ?_)
  · have c2 := of_decide_eq_true c2
    have hm1 : 1 ≤ m := by
      rcases Nat.eq_zero_or_pos m with h | h
      · rw [h] at hp1; have : ps.length ≤ 1 := hp1; omega
      · exact h
    have e2 : 2 ^ m = 2 * 2 ^ (m - 1) := by
      rw [← Nat.pow_succ', Nat.succ_eq_add_one, Nat.sub_add_cancel hm1]
    have hpm : 2 ^ m ≤ 256 := Nat.pow_le_pow_right (by decide) hm
    have el : ((ps.length : Int) / 2) * 2 = ((ps.length / 2 * 2 : Nat) : Int) := by omega
    (repeat (first | with_reducible refine w_seq ?_ | with_reducible refine w_set ?_ | with_reducible refine w_expr ?_ | with_reducible refine w_ret ?_ | with_reducible refine w_retN ?_ | with_reducible refine w_store ?_ | with_reducible refine w_nop ?_ | with_reducible refine w_for ?_ | with_reducible refine w_asg ?_ | with_reducible refine w_ct ?_ | with_reducible refine w_brk ?_ | with_reducible refine y_f2 ?_ | with_reducible refine y_C ?_ | with_reducible refine y_var (by with_unfolding_all exact rfl) ?_ | with_reducible refine y_f1 ?_ | with_reducible refine y_B ?_ | with_reducible refine y_unB ?_ | with_reducible refine y_ch ?_ | with_reducible refine y_tru ?_ | with_reducible refine y_tbl ?_ | with_reducible refine y_and ?_ | with_reducible refine y_or ?_ | with_reducible refine y_not ?_ | with_reducible refine y_andV ?_ | with_reducible refine y_notV ?_ | with_reducible refine y_nil ?_ | with_reducible refine y_cons ?_ | with_reducible refine y_tup ?_ | with_reducible refine y_lst ?_ | with_reducible refine y_val ?_ | with_reducible refine y_loc ?_ | with_reducible refine y_dval ?_ | with_reducible refine y_dloc ?_ | with_reducible refine y_ice ?_ | with_reducible refine y_oNone ?_ | with_reducible refine y_oSome ?_ | with_reducible refine y_sl ?_ | with_reducible refine y_A ?_ | with_reducible refine y_call ?_ | with_reducible refine y_M ?_ | with_reducible refine y_aComp ?_ | with_reducible refine y_rng1 ?_ | with_reducible refine y_over ?_ | with_reducible refine y_addI ?_ | with_reducible refine y_subI ?_ | with_reducible refine y_ltI ?_ | with_reducible refine y_leI ?_ | with_reducible refine y_gtI ?_ | with_reducible refine y_geI ?_ | with_reducible refine y_eqI ?_ | with_reducible refine y_neI ?_ | with_reducible refine y_eqB ?_ | with_reducible refine y_neB ?_ | with_reducible refine y_eqS ?_ | with_reducible refine y_neS ?_ | with_reducible refine y_isN ?_ | with_reducible refine y_isnN ?_ | with_reducible refine y_wget ?_ | with_reducible refine And.intro (len_ok (by with_unfolding_all exact rfl)) ?_))
    with_reducible refine y_lenL ?_
    (repeat (first | with_reducible refine w_seq ?_ | with_reducible refine w_set ?_ | with_reducible refine w_expr ?_ | with_reducible refine w_ret ?_ | with_reducible refine w_retN ?_ | with_reducible refine w_store ?_ | with_reducible refine w_nop ?_ | with_reducible refine w_for ?_ | with_reducible refine w_asg ?_ | with_reducible refine w_ct ?_ | with_reducible refine w_brk ?_ | with_reducible refine y_f2 ?_ | with_reducible refine y_C ?_ | with_reducible refine y_var (by with_unfolding_all exact rfl) ?_ | with_reducible refine y_f1 ?_ | with_reducible refine y_B ?_ | with_reducible refine y_unB ?_ | with_reducible refine y_ch ?_ | with_reducible refine y_tru ?_ | with_reducible refine y_tbl ?_ | with_reducible refine y_and ?_ | with_reducible refine y_or ?_ | with_reducible refine y_not ?_ | with_reducible refine y_andV ?_ | with_reducible refine y_notV ?_ | with_reducible refine y_nil ?_ | with_reducible refine y_cons ?_ | with_reducible refine y_tup ?_ | with_reducible refine y_lst ?_ | with_reducible refine y_val ?_ | with_reducible refine y_loc ?_ | with_reducible refine y_dval ?_ | with_reducible refine y_dloc ?_ | with_reducible refine y_ice ?_ | with_reducible refine y_oNone ?_ | with_reducible refine y_oSome ?_ | with_reducible refine y_sl ?_ | with_reducible refine y_A ?_ | with_reducible refine y_call ?_ | with_reducible refine y_M ?_ | with_reducible refine y_aComp ?_ | with_reducible refine y_rng1 ?_ | with_reducible refine y_over ?_ | with_reducible refine y_addI ?_ | with_reducible refine y_subI ?_ | with_reducible refine y_ltI ?_ | with_reducible refine y_leI ?_ | with_reducible refine y_gtI ?_ | with_reducible refine y_geI ?_ | with_reducible refine y_eqI ?_ | with_reducible refine y_neI ?_ | with_reducible refine y_eqB ?_ | with_reducible refine y_neB ?_ | with_reducible refine y_eqS ?_ | with_reducible refine y_neS ?_ | with_reducible refine y_isN ?_ | with_reducible refine y_isnN ?_ | with_reducible refine y_wget ?_ | with_reducible refine And.intro (len_ok (by with_unfolding_all exact rfl)) ?_))
    with_reducible refine y_fdivI (by decide) (by decide) ?_
    (repeat (first | with_reducible refine w_seq ?_ | with_reducible refine w_set ?_ | with_reducible refine w_expr ?_ | with_reducible refine w_ret ?_ | with_reducible refine w_retN ?_ | with_reducible refine w_store ?_ | with_reducible refine w_nop ?_ | with_reducible refine w_for ?_ | with_reducible refine w_asg ?_ | with_reducible refine w_ct ?_ | with_reducible refine w_brk ?_ | with_reducible refine y_f2 ?_ | with_reducible refine y_C ?_ | with_reducible refine y_var (by with_unfolding_all exact rfl) ?_ | with_reducible refine y_f1 ?_ | with_reducible refine y_B ?_ | with_reducible refine y_unB ?_ | with_reducible refine y_ch ?_ | with_reducible refine y_tru ?_ | with_reducible refine y_tbl ?_ | with_reducible refine y_and ?_ | with_reducible refine y_or ?_ | with_reducible refine y_not ?_ | with_reducible refine y_andV ?_ | with_reducible refine y_notV ?_ | with_reducible refine y_nil ?_ | with_reducible refine y_cons ?_ | with_reducible refine y_tup ?_ | with_reducible refine y_lst ?_ | with_reducible refine y_val ?_ | with_reducible refine y_loc ?_ | with_reducible refine y_dval ?_ | with_reducible refine y_dloc ?_ | with_reducible refine y_ice ?_ | with_reducible refine y_oNone ?_ | with_reducible refine y_oSome ?_ | with_reducible refine y_sl ?_ | with_reducible refine y_A ?_ | with_reducible refine y_call ?_ | with_reducible refine y_M ?_ | with_reducible refine y_aComp ?_ | with_reducible refine y_rng1 ?_ | with_reducible refine y_over ?_ | with_reducible refine y_addI ?_ | with_reducible refine y_subI ?_ | with_reducible refine y_ltI ?_ | with_reducible refine y_leI ?_ | with_reducible refine y_gtI ?_ | with_reducible refine y_geI ?_ | with_reducible refine y_eqI ?_ | with_reducible refine y_neI ?_ | with_reducible refine y_eqB ?_ | with_reducible refine y_neB ?_ | with_reducible refine y_eqS ?_ | with_reducible refine y_neS ?_ | with_reducible refine y_isN ?_ | with_reducible refine y_isnN ?_ | with_reducible refine y_wget ?_ | with_reducible refine And.intro (len_ok (by with_unfolding_all exact rfl)) ?_))
    with_reducible refine y_mulI ?_ ?_
    · exact mul_ok (a := 40) (b := 40) (natAbs_lt (by omega) (by omega)) (by decide) (by decide)
    rw [el]
    refine ⟨_, rfl, ?_⟩
    (repeat (first | with_reducible refine w_seq ?_ | with_reducible refine w_set ?_ | with_reducible refine w_expr ?_ | with_reducible refine w_ret ?_ | with_reducible refine w_retN ?_ | with_reducible refine w_store ?_ | with_reducible refine w_nop ?_ | with_reducible refine w_for ?_ | with_reducible refine w_asg ?_ | with_reducible refine w_ct ?_ | with_reducible refine w_brk ?_ | with_reducible refine y_f2 ?_ | with_reducible refine y_C ?_ | with_reducible refine y_var (by with_unfolding_all exact rfl) ?_ | with_reducible refine y_f1 ?_ | with_reducible refine y_B ?_ | with_reducible refine y_unB ?_ | with_reducible refine y_ch ?_ | with_reducible refine y_tru ?_ | with_reducible refine y_tbl ?_ | with_reducible refine y_and ?_ | with_reducible refine y_or ?_ | with_reducible refine y_not ?_ | with_reducible refine y_andV ?_ | with_reducible refine y_notV ?_ | with_reducible refine y_nil ?_ | with_reducible refine y_cons ?_ | with_reducible refine y_tup ?_ | with_reducible refine y_lst ?_ | with_reducible refine y_val ?_ | with_reducible refine y_loc ?_ | with_reducible refine y_dval ?_ | with_reducible refine y_dloc ?_ | with_reducible refine y_ice ?_ | with_reducible refine y_oNone ?_ | with_reducible refine y_oSome ?_ | with_reducible refine y_sl ?_ | with_reducible refine y_A ?_ | with_reducible refine y_call ?_ | with_reducible refine y_M ?_ | with_reducible refine y_aComp ?_ | with_reducible refine y_rng1 ?_ | with_reducible refine y_over ?_ | with_reducible refine y_addI ?_ | with_reducible refine y_subI ?_ | with_reducible refine y_ltI ?_ | with_reducible refine y_leI ?_ | with_reducible refine y_gtI ?_ | with_reducible refine y_geI ?_ | with_reducible refine y_eqI ?_ | with_reducible refine y_neI ?_ | with_reducible refine y_eqB ?_ | with_reducible refine y_neB ?_ | with_reducible refine y_eqS ?_ | with_reducible refine y_neS ?_ | with_reducible refine y_isN ?_ | with_reducible refine y_isnN ?_ | with_reducible refine y_wget ?_ | with_reducible refine And.intro (len_ok (by with_unfolding_all exact rfl)) ?_))
    refine y_slL ?_
    rw [cut_suf]
    have lrest : (ps.drop (ps.length / 2 * 2)).length = ps.length - ps.length / 2 * 2 := List.length_drop
    have prest : ∀ p ∈ ps.drop (ps.length / 2 * 2), Pl 3 e p := fun p h => hpp p (List.mem_of_mem_drop h)
    generalize ps.drop (ps.length / 2 * 2) = rest at lrest prest ⊢
    (repeat (first | with_reducible refine w_seq ?_ | with_reducible refine w_set ?_ | with_reducible refine w_expr ?_ | with_reducible refine w_ret ?_ | with_reducible refine w_retN ?_ | with_reducible refine w_store ?_ | with_reducible refine w_nop ?_ | with_reducible refine w_for ?_ | with_reducible refine w_asg ?_ | with_reducible refine w_ct ?_ | with_reducible refine w_brk ?_ | with_reducible refine y_f2 ?_ | with_reducible refine y_C ?_ | with_reducible refine y_var (by with_unfolding_all exact rfl) ?_ | with_reducible refine y_f1 ?_ | with_reducible refine y_B ?_ | with_reducible refine y_unB ?_ | with_reducible refine y_ch ?_ | with_reducible refine y_tru ?_ | with_reducible refine y_tbl ?_ | with_reducible refine y_and ?_ | with_reducible refine y_or ?_ | with_reducible refine y_not ?_ | with_reducible refine y_andV ?_ | with_reducible refine y_notV ?_ | with_reducible refine y_nil ?_ | with_reducible refine y_cons ?_ | with_reducible refine y_tup ?_ | with_reducible refine y_lst ?_ | with_reducible refine y_val ?_ | with_reducible refine y_loc ?_ | with_reducible refine y_dval ?_ | with_reducible refine y_dloc ?_ | with_reducible refine y_ice ?_ | with_reducible refine y_oNone ?_ | with_reducible refine y_oSome ?_ | with_reducible refine y_sl ?_ | with_reducible refine y_A ?_ | with_reducible refine y_call ?_ | with_reducible refine y_M ?_ | with_reducible refine y_aComp ?_ | with_reducible refine y_rng1 ?_ | with_reducible refine y_over ?_ | with_reducible refine y_addI ?_ | with_reducible refine y_subI ?_ | with_reducible refine y_ltI ?_ | with_reducible refine y_leI ?_ | with_reducible refine y_gtI ?_ | with_reducible refine y_geI ?_ | with_reducible refine y_eqI ?_ | with_reducible refine y_neI ?_ | with_reducible refine y_eqB ?_ | with_reducible refine y_neB ?_ | with_reducible refine y_eqS ?_ | with_reducible refine y_neS ?_ | with_reducible refine y_isN ?_ | with_reducible refine y_isnN ?_ | with_reducible refine y_wget ?_ | with_reducible refine And.intro (len_ok (by with_unfolding_all exact rfl)) ?_))
    with_reducible refine y_rng02 ?_
    (repeat (first | with_reducible refine w_seq ?_ | with_reducible refine w_set ?_ | with_reducible refine w_expr ?_ | with_reducible refine w_ret ?_ | with_reducible refine w_retN ?_ | with_reducible refine w_store ?_ | with_reducible refine w_nop ?_ | with_reducible refine w_for ?_ | with_reducible refine w_asg ?_ | with_reducible refine w_ct ?_ | with_reducible refine w_brk ?_ | with_reducible refine y_f2 ?_ | with_reducible refine y_C ?_ | with_reducible refine y_var (by with_unfolding_all exact rfl) ?_ | with_reducible refine y_f1 ?_ | with_reducible refine y_B ?_ | with_reducible refine y_unB ?_ | with_reducible refine y_ch ?_ | with_reducible refine y_tru ?_ | with_reducible refine y_tbl ?_ | with_reducible refine y_and ?_ | with_reducible refine y_or ?_ | with_reducible refine y_not ?_ | with_reducible refine y_andV ?_ | with_reducible refine y_notV ?_ | with_reducible refine y_nil ?_ | with_reducible refine y_cons ?_ | with_reducible refine y_tup ?_ | with_reducible refine y_lst ?_ | with_reducible refine y_val ?_ | with_reducible refine y_loc ?_ | with_reducible refine y_dval ?_ | with_reducible refine y_dloc ?_ | with_reducible refine y_ice ?_ | with_reducible refine y_oNone ?_ | with_reducible refine y_oSome ?_ | with_reducible refine y_sl ?_ | with_reducible refine y_A ?_ | with_reducible refine y_call ?_ | with_reducible refine y_M ?_ | with_reducible refine y_aComp ?_ | with_reducible refine y_rng1 ?_ | with_reducible refine y_over ?_ | with_reducible refine y_addI ?_ | with_reducible refine y_subI ?_ | with_reducible refine y_ltI ?_ | with_reducible refine y_leI ?_ | with_reducible refine y_gtI ?_ | with_reducible refine y_geI ?_ | with_reducible refine y_eqI ?_ | with_reducible refine y_neI ?_ | with_reducible refine y_eqB ?_ | with_reducible refine y_neB ?_ | with_reducible refine y_eqS ?_ | with_reducible refine y_neS ?_ | with_reducible refine y_isN ?_ | with_reducible refine y_isnN ?_ | with_reducible refine y_wget ?_ | with_reducible refine And.intro (len_ok (by with_unfolding_all exact rfl)) ?_))
    with_reducible refine y_lenL ?_
    (repeat (first | with_reducible refine w_seq ?_ | with_reducible refine w_set ?_ | with_reducible refine w_expr ?_ | with_reducible refine w_ret ?_ | with_reducible refine w_retN ?_ | with_reducible refine w_store ?_ | with_reducible refine w_nop ?_ | with_reducible refine w_for ?_ | with_reducible refine w_asg ?_ | with_reducible refine w_ct ?_ | with_reducible refine w_brk ?_ | with_reducible refine y_f2 ?_ | with_reducible refine y_C ?_ | with_reducible refine y_var (by with_unfolding_all exact rfl) ?_ | with_reducible refine y_f1 ?_ | with_reducible refine y_B ?_ | with_reducible refine y_unB ?_ | with_reducible refine y_ch ?_ | with_reducible refine y_tru ?_ | with_reducible refine y_tbl ?_ | with_reducible refine y_and ?_ | with_reducible refine y_or ?_ | with_reducible refine y_not ?_ | with_reducible refine y_andV ?_ | with_reducible refine y_notV ?_ | with_reducible refine y_nil ?_ | with_reducible refine y_cons ?_ | with_reducible refine y_tup ?_ | with_reducible refine y_lst ?_ | with_reducible refine y_val ?_ | with_reducible refine y_loc ?_ | with_reducible refine y_dval ?_ | with_reducible refine y_dloc ?_ | with_reducible refine y_ice ?_ | with_reducible refine y_oNone ?_ | with_reducible refine y_oSome ?_ | with_reducible refine y_sl ?_ | with_reducible refine y_A ?_ | with_reducible refine y_call ?_ | with_reducible refine y_M ?_ | with_reducible refine y_aComp ?_ | with_reducible refine y_rng1 ?_ | with_reducible refine y_over ?_ | with_reducible refine y_addI ?_ | with_reducible refine y_subI ?_ | with_reducible refine y_ltI ?_ | with_reducible refine y_leI ?_ | with_reducible refine y_gtI ?_ | with_reducible refine y_geI ?_ | with_reducible refine y_eqI ?_ | with_reducible refine y_neI ?_ | with_reducible refine y_eqB ?_ | with_reducible refine y_neB ?_ | with_reducible refine y_eqS ?_ | with_reducible refine y_neS ?_ | with_reducible refine y_isN ?_ | with_reducible refine y_isnN ?_ | with_reducible refine y_wget ?_ | with_reducible refine And.intro (len_ok (by with_unfolding_all exact rfl)) ?_))
    refine ⟨ps.length, rfl, by omega, by omega, ?_⟩
    refine (y_comp (Q := fun us S5 => S5 = S4 ∧ us.length = ps.length / 2 ∧ ∀ p ∈ us, Pl 3 (e + 1) p) (fun us acc S5 => S5 = S4 ∧ us.length + acc.length = ps.length / 2 ∧ (∀ u ∈ us, ∃ i : Nat, i < ps.length / 2 ∧ u = .int (0 + (i : Int) * 2)) ∧ ∀ p ∈ acc, Pl 3 (e + 1) p) ?_ ?_ _ _ _ ⟨rfl, by rw [rng_len]; rfl, fun u h => rng_mem h, by intro p h; cases h⟩).mono ?_
    · rintro u us acc _ ⟨rfl, hl, hu, ha⟩
      obtain ⟨i, hi, rfl⟩ := hu u List.mem_cons_self
      have hu := fun v h => hu v (List.mem_cons_of_mem _ h)
      rw [List.length_cons] at hl
      refine ⟨by rw [sizeL]; omega, _, rfl, ?_⟩
      refine y_ok ?_
      rw [if_pos rfl]
      (repeat (first | with_reducible refine w_seq ?_ | with_reducible refine w_set ?_ | with_reducible refine w_expr ?_ | with_reducible refine w_ret ?_ | with_reducible refine w_retN ?_ | with_reducible refine w_store ?_ | with_reducible refine w_nop ?_ | with_reducible refine w_for ?_ | with_reducible refine w_asg ?_ | with_reducible refine w_ct ?_ | with_reducible refine w_brk ?_ | with_reducible refine y_f2 ?_ | with_reducible refine y_C ?_ | with_reducible refine y_var (by with_unfolding_all exact rfl) ?_ | with_reducible refine y_f1 ?_ | with_reducible refine y_B ?_ | with_reducible refine y_unB ?_ | with_reducible refine y_ch ?_ | with_reducible refine y_tru ?_ | with_reducible refine y_tbl ?_ | with_reducible refine y_and ?_ | with_reducible refine y_or ?_ | with_reducible refine y_not ?_ | with_reducible refine y_andV ?_ | with_reducible refine y_notV ?_ | with_reducible refine y_nil ?_ | with_reducible refine y_cons ?_ | with_reducible refine y_tup ?_ | with_reducible refine y_lst ?_ | with_reducible refine y_val ?_ | with_reducible refine y_loc ?_ | with_reducible refine y_dval ?_ | with_reducible refine y_dloc ?_ | with_reducible refine y_ice ?_ | with_reducible refine y_oNone ?_ | with_reducible refine y_oSome ?_ | with_reducible refine y_sl ?_ | with_reducible refine y_A ?_ | with_reducible refine y_call ?_ | with_reducible refine y_M ?_ | with_reducible refine y_aComp ?_ | with_reducible refine y_rng1 ?_ | with_reducible refine y_over ?_ | with_reducible refine y_addI ?_ | with_reducible refine y_subI ?_ | with_reducible refine y_ltI ?_ | with_reducible refine y_leI ?_ | with_reducible refine y_gtI ?_ | with_reducible refine y_geI ?_ | with_reducible refine y_eqI ?_ | with_reducible refine y_neI ?_ | with_reducible refine y_eqB ?_ | with_reducible refine y_neB ?_ | with_reducible refine y_eqS ?_ | with_reducible refine y_neS ?_ | with_reducible refine y_isN ?_ | with_reducible refine y_isnN ?_ | with_reducible refine y_wget ?_ | with_reducible refine And.intro (len_ok (by with_unfolding_all exact rfl)) ?_))
      refine y_ixL (by omega) (by omega) fun p hp _ => ?_
      (repeat (first | with_reducible refine w_seq ?_ | with_reducible refine w_set ?_ | with_reducible refine w_expr ?_ | with_reducible refine w_ret ?_ | with_reducible refine w_retN ?_ | with_reducible refine w_store ?_ | with_reducible refine w_nop ?_ | with_reducible refine w_for ?_ | with_reducible refine w_asg ?_ | with_reducible refine w_ct ?_ | with_reducible refine w_brk ?_ | with_reducible refine y_f2 ?_ | with_reducible refine y_C ?_ | with_reducible refine y_var (by with_unfolding_all exact rfl) ?_ | with_reducible refine y_f1 ?_ | with_reducible refine y_B ?_ | with_reducible refine y_unB ?_ | with_reducible refine y_ch ?_ | with_reducible refine y_tru ?_ | with_reducible refine y_tbl ?_ | with_reducible refine y_and ?_ | with_reducible refine y_or ?_ | with_reducible refine y_not ?_ | with_reducible refine y_andV ?_ | with_reducible refine y_notV ?_ | with_reducible refine y_nil ?_ | with_reducible refine y_cons ?_ | with_reducible refine y_tup ?_ | with_reducible refine y_lst ?_ | with_reducible refine y_val ?_ | with_reducible refine y_loc ?_ | with_reducible refine y_dval ?_ | with_reducible refine y_dloc ?_ | with_reducible refine y_ice ?_ | with_reducible refine y_oNone ?_ | with_reducible refine y_oSome ?_ | with_reducible refine y_sl ?_ | with_reducible refine y_A ?_ | with_reducible refine y_call ?_ | with_reducible refine y_M ?_ | with_reducible refine y_aComp ?_ | with_reducible refine y_rng1 ?_ | with_reducible refine y_over ?_ | with_reducible refine y_addI ?_ | with_reducible refine y_subI ?_ | with_reducible refine y_ltI ?_ | with_reducible refine y_leI ?_ | with_reducible refine y_gtI ?_ | with_reducible refine y_geI ?_ | with_reducible refine y_eqI ?_ | with_reducible refine y_neI ?_ | with_reducible refine y_eqB ?_ | with_reducible refine y_neB ?_ | with_reducible refine y_eqS ?_ | with_reducible refine y_neS ?_ | with_reducible refine y_isN ?_ | with_reducible refine y_isnN ?_ | with_reducible refine y_wget ?_ | with_reducible refine And.intro (len_ok (by with_unfolding_all exact rfl)) ?_))
      refine y_ixL (by omega) (by omega) fun q hq _ => ?_
      (repeat (first | with_reducible refine w_seq ?_ | with_reducible refine w_set ?_ | with_reducible refine w_expr ?_ | with_reducible refine w_ret ?_ | with_reducible refine w_retN ?_ | with_reducible refine w_store ?_ | with_reducible refine w_nop ?_ | with_reducible refine w_for ?_ | with_reducible refine w_asg ?_ | with_reducible refine w_ct ?_ | with_reducible refine w_brk ?_ | with_reducible refine y_f2 ?_ | with_reducible refine y_C ?_ | with_reducible refine y_var (by with_unfolding_all exact rfl) ?_ | with_reducible refine y_f1 ?_ | with_reducible refine y_B ?_ | with_reducible refine y_unB ?_ | with_reducible refine y_ch ?_ | with_reducible refine y_tru ?_ | with_reducible refine y_tbl ?_ | with_reducible refine y_and ?_ | with_reducible refine y_or ?_ | with_reducible refine y_not ?_ | with_reducible refine y_andV ?_ | with_reducible refine y_notV ?_ | with_reducible refine y_nil ?_ | with_reducible refine y_cons ?_ | with_reducible refine y_tup ?_ | with_reducible refine y_lst ?_ | with_reducible refine y_val ?_ | with_reducible refine y_loc ?_ | with_reducible refine y_dval ?_ | with_reducible refine y_dloc ?_ | with_reducible refine y_ice ?_ | with_reducible refine y_oNone ?_ | with_reducible refine y_oSome ?_ | with_reducible refine y_sl ?_ | with_reducible refine y_A ?_ | with_reducible refine y_call ?_ | with_reducible refine y_M ?_ | with_reducible refine y_aComp ?_ | with_reducible refine y_rng1 ?_ | with_reducible refine y_over ?_ | with_reducible refine y_addI ?_ | with_reducible refine y_subI ?_ | with_reducible refine y_ltI ?_ | with_reducible refine y_leI ?_ | with_reducible refine y_gtI ?_ | with_reducible refine y_geI ?_ | with_reducible refine y_eqI ?_ | with_reducible refine y_neI ?_ | with_reducible refine y_eqB ?_ | with_reducible refine y_neB ?_ | with_reducible refine y_eqS ?_ | with_reducible refine y_neS ?_ | with_reducible refine y_isN ?_ | with_reducible refine y_isnN ?_ | with_reducible refine y_wget ?_ | with_reducible refine And.intro (len_ok (by with_unfolding_all exact rfl)) ?_))
      refine ⟨rfl, by rw [List.length_append, List.length_singleton]; omega, hu, fun v hv => (List.mem_append.mp hv).elim (ha v) (fun h => ?_)⟩
      rw [List.mem_singleton.mp h]
      refine ⟨(by decide : 3 ≤ 3), fun u hu => ?_⟩
      simp only [List.mem_cons, List.mem_nil_iff, or_false] at hu
      rcases hu with rfl | rfl | rfl
      · exact Pl.strs (by decide +kernel)
      · exact hpp _ hp
      · exact hpp _ hq
    · rintro acc _ ⟨rfl, hl, -, ha⟩
      exact ⟨rfl, by simp only [List.length_nil] at hl; omega, ha⟩
    rintro us _ ⟨rfl, hl, ha⟩
    (repeat (first | with_reducible refine w_seq ?_ | with_reducible refine w_set ?_ | with_reducible refine w_expr ?_ | with_reducible refine w_ret ?_ | with_reducible refine w_retN ?_ | with_reducible refine w_store ?_ | with_reducible refine w_nop ?_ | with_reducible refine w_for ?_ | with_reducible refine w_asg ?_ | with_reducible refine w_ct ?_ | with_reducible refine w_brk ?_ | with_reducible refine y_f2 ?_ | with_reducible refine y_C ?_ | with_reducible refine y_var (by with_unfolding_all exact rfl) ?_ | with_reducible refine y_f1 ?_ | with_reducible refine y_B ?_ | with_reducible refine y_unB ?_ | with_reducible refine y_ch ?_ | with_reducible refine y_tru ?_ | with_reducible refine y_tbl ?_ | with_reducible refine y_and ?_ | with_reducible refine y_or ?_ | with_reducible refine y_not ?_ | with_reducible refine y_andV ?_ | with_reducible refine y_notV ?_ | with_reducible refine y_nil ?_ | with_reducible refine y_cons ?_ | with_reducible refine y_tup ?_ | with_reducible refine y_lst ?_ | with_reducible refine y_val ?_ | with_reducible refine y_loc ?_ | with_reducible refine y_dval ?_ | with_reducible refine y_dloc ?_ | with_reducible refine y_ice ?_ | with_reducible refine y_oNone ?_ | with_reducible refine y_oSome ?_ | with_reducible refine y_sl ?_ | with_reducible refine y_A ?_ | with_reducible refine y_call ?_ | with_reducible refine y_M ?_ | with_reducible refine y_aComp ?_ | with_reducible refine y_rng1 ?_ | with_reducible refine y_over ?_ | with_reducible refine y_addI ?_ | with_reducible refine y_subI ?_ | with_reducible refine y_ltI ?_ | with_reducible refine y_leI ?_ | with_reducible refine y_gtI ?_ | with_reducible refine y_geI ?_ | with_reducible refine y_eqI ?_ | with_reducible refine y_neI ?_ | with_reducible refine y_eqB ?_ | with_reducible refine y_neB ?_ | with_reducible refine y_eqS ?_ | with_reducible refine y_neS ?_ | with_reducible refine y_isN ?_ | with_reducible refine y_isnN ?_ | with_reducible refine y_wget ?_ | with_reducible refine And.intro (len_ok (by with_unfolding_all exact rfl)) ?_))
    refine y_addL (by rw [sizeL]; omega) ?_
    refine ⟨m - 1, by omega, rfl, by omega, us ++ rest, _, _, e + 1, rfl, by omega, by rw [List.length_append]; omega, by rw [List.length_append]; omega, fun p hp => (List.mem_append.mp hp).elim (ha p) (fun h => (prest p h).up (by omega))⟩
  · have c2 := of_decide_eq_false c2
    have ix0 : ∀ {Q : U → Sto → Prop} {S}, (∀ u, Pl 3 e u → Q u S) → Y (ixU (.lst ps) (.int 0) S) Q := fun h => y_ixL (by decide) (by omega) fun u hu _ => h u (hpp u hu)
    (repeat (first | with_reducible refine w_seq ?_ | with_reducible refine w_set ?_ | with_reducible refine w_expr ?_ | with_reducible refine w_ret ?_ | with_reducible refine w_retN ?_ | with_reducible refine w_store ?_ | with_reducible refine w_nop ?_ | with_reducible refine w_for ?_ | with_reducible refine w_asg ?_ | with_reducible refine w_ct ?_ | with_reducible refine w_brk ?_ | with_reducible refine y_f2 ?_ | with_reducible refine y_C ?_ | with_reducible refine y_var (by with_unfolding_all exact rfl) ?_ | with_reducible refine y_f1 ?_ | with_reducible refine y_B ?_ | with_reducible refine y_unB ?_ | with_reducible refine y_ch ?_ | with_reducible refine y_tru ?_ | with_reducible refine y_tbl ?_ | with_reducible refine y_and ?_ | with_reducible refine y_or ?_ | with_reducible refine y_not ?_ | with_reducible refine y_andV ?_ | with_reducible refine y_notV ?_ | with_reducible refine y_nil ?_ | with_reducible refine y_cons ?_ | with_reducible refine y_tup ?_ | with_reducible refine y_lst ?_ | with_reducible refine y_val ?_ | with_reducible refine y_loc ?_ | with_reducible refine y_dval ?_ | with_reducible refine y_dloc ?_ | with_reducible refine y_ice ?_ | with_reducible refine y_oNone ?_ | with_reducible refine y_oSome ?_ | with_reducible refine y_sl ?_ | with_reducible refine y_A ?_ | with_reducible refine y_call ?_ | with_reducible refine y_M ?_ | with_reducible refine y_aComp ?_ | with_reducible refine y_rng1 ?_ | with_reducible refine y_over ?_ | with_reducible refine y_addI ?_ | with_reducible refine y_subI ?_ | with_reducible refine y_ltI ?_ | with_reducible refine y_leI ?_ | with_reducible refine y_gtI ?_ | with_reducible refine y_geI ?_ | with_reducible refine y_eqI ?_ | with_reducible refine y_neI ?_ | with_reducible refine y_eqB ?_ | with_reducible refine y_neB ?_ | with_reducible refine y_eqS ?_ | with_reducible refine y_neS ?_ | with_reducible refine y_isN ?_ | with_reducible refine y_isnN ?_ | with_reducible refine y_wget ?_ | with_reducible refine And.intro (len_ok (by with_unfolding_all exact rfl)) ?_))
    refine y_if ?_
    (repeat (first | with_reducible refine w_seq ?_ | with_reducible refine w_set ?_ | with_reducible refine w_expr ?_ | with_reducible refine w_ret ?_ | with_reducible refine w_retN ?_ | with_reducible refine w_store ?_ | with_reducible refine w_nop ?_ | with_reducible refine w_for ?_ | with_reducible refine w_asg ?_ | with_reducible refine w_ct ?_ | with_reducible refine w_brk ?_ | with_reducible refine y_f2 ?_ | with_reducible refine y_C ?_ | with_reducible refine y_var (by with_unfolding_all exact rfl) ?_ | with_reducible refine y_f1 ?_ | with_reducible refine y_B ?_ | with_reducible refine y_unB ?_ | with_reducible refine y_ch ?_ | with_reducible refine y_tru ?_ | with_reducible refine y_tbl ?_ | with_reducible refine y_and ?_ | with_reducible refine y_or ?_ | with_reducible refine y_not ?_ | with_reducible refine y_andV ?_ | with_reducible refine y_notV ?_ | with_reducible refine y_nil ?_ | with_reducible refine y_cons ?_ | with_reducible refine y_tup ?_ | with_reducible refine y_lst ?_ | with_reducible refine y_val ?_ | with_reducible refine y_loc ?_ | with_reducible refine y_dval ?_ | with_reducible refine y_dloc ?_ | with_reducible refine y_ice ?_ | with_reducible refine y_oNone ?_ | with_reducible refine y_oSome ?_ | with_reducible refine y_sl ?_ | with_reducible refine y_A ?_ | with_reducible refine y_call ?_ | with_reducible refine y_M ?_ | with_reducible refine y_aComp ?_ | with_reducible refine y_rng1 ?_ | with_reducible refine y_over ?_ | with_reducible refine y_addI ?_ | with_reducible refine y_subI ?_ | with_reducible refine y_ltI ?_ | with_reducible refine y_leI ?_ | with_reducible refine y_gtI ?_ | with_reducible refine y_geI ?_ | with_reducible refine y_eqI ?_ | with_reducible refine y_neI ?_ | with_reducible refine y_eqB ?_ | with_reducible refine y_neB ?_ | with_reducible refine y_eqS ?_ | with_reducible refine y_neS ?_ | with_reducible refine y_isN ?_ | with_reducible refine y_isnN ?_ | with_reducible refine y_wget ?_ | with_reducible refine And.intro (len_ok (by with_unfolding_all exact rfl)) ?_))
    refine ite_b (fun _ => ?_) (fun _ => ?_)
    · (repeat (first | with_reducible refine w_seq ?_ | with_reducible refine w_set ?_ | with_reducible refine w_expr ?_ | with_reducible refine w_ret ?_ | with_reducible refine w_retN ?_ | with_reducible refine w_store ?_ | with_reducible refine w_nop ?_ | with_reducible refine w_for ?_ | with_reducible refine w_asg ?_ | with_reducible refine w_ct ?_ | with_reducible refine w_brk ?_ | with_reducible refine y_f2 ?_ | with_reducible refine y_C ?_ | with_reducible refine y_var (by with_unfolding_all exact rfl) ?_ | with_reducible refine y_f1 ?_ | with_reducible refine y_B ?_ | with_reducible refine y_unB ?_ | with_reducible refine y_ch ?_ | with_reducible refine y_tru ?_ | with_reducible refine y_tbl ?_ | with_reducible refine y_and ?_ | with_reducible refine y_or ?_ | with_reducible refine y_not ?_ | with_reducible refine y_andV ?_ | with_reducible refine y_notV ?_ | with_reducible refine y_nil ?_ | with_reducible refine y_cons ?_ | with_reducible refine y_tup ?_ | with_reducible refine y_lst ?_ | with_reducible refine y_val ?_ | with_reducible refine y_loc ?_ | with_reducible refine y_dval ?_ | with_reducible refine y_dloc ?_ | with_reducible refine y_ice ?_ | with_reducible refine y_oNone ?_ | with_reducible refine y_oSome ?_ | with_reducible refine y_sl ?_ | with_reducible refine y_A ?_ | with_reducible refine y_call ?_ | with_reducible refine y_M ?_ | with_reducible refine y_aComp ?_ | with_reducible refine y_rng1 ?_ | with_reducible refine y_over ?_ | with_reducible refine y_addI ?_ | with_reducible refine y_subI ?_ | with_reducible refine y_ltI ?_ | with_reducible refine y_leI ?_ | with_reducible refine y_gtI ?_ | with_reducible refine y_geI ?_ | with_reducible refine y_eqI ?_ | with_reducible refine y_neI ?_ | with_reducible refine y_eqB ?_ | with_reducible refine y_neB ?_ | with_reducible refine y_eqS ?_ | with_reducible refine y_neS ?_ | with_reducible refine y_isN ?_ | with_reducible refine y_isnN ?_ | with_reducible refine y_wget ?_ | with_reducible refine And.intro (len_ok (by with_unfolding_all exact rfl)) ?_))
      refine ix0 fun u pu => ?_
      exact ⟨pu.up (by omega), t3.mono (by omega), f1.trans (f2.trans f3)⟩
    · (repeat (first | with_reducible refine w_seq ?_ | with_reducible refine w_set ?_ | with_reducible refine w_expr ?_ | with_reducible refine w_ret ?_ | with_reducible refine w_retN ?_ | with_reducible refine w_store ?_ | with_reducible refine w_nop ?_ | with_reducible refine w_for ?_ | with_reducible refine w_asg ?_ | with_reducible refine w_ct ?_ | with_reducible refine w_brk ?_ | with_reducible refine y_f2 ?_ | with_reducible refine y_C ?_ | with_reducible refine y_var (by with_unfolding_all exact rfl) ?_ | with_reducible refine y_f1 ?_ | with_reducible refine y_B ?_ | with_reducible refine y_unB ?_ | with_reducible refine y_ch ?_ | with_reducible refine y_tru ?_ | with_reducible refine y_tbl ?_ | with_reducible refine y_and ?_ | with_reducible refine y_or ?_ | with_reducible refine y_not ?_ | with_reducible refine y_andV ?_ | with_reducible refine y_notV ?_ | with_reducible refine y_nil ?_ | with_reducible refine y_cons ?_ | with_reducible refine y_tup ?_ | with_reducible refine y_lst ?_ | with_reducible refine y_val ?_ | with_reducible refine y_loc ?_ | with_reducible refine y_dval ?_ | with_reducible refine y_dloc ?_ | with_reducible refine y_ice ?_ | with_reducible refine y_oNone ?_ | with_reducible refine y_oSome ?_ | with_reducible refine y_sl ?_ | with_reducible refine y_A ?_ | with_reducible refine y_call ?_ | with_reducible refine y_M ?_ | with_reducible refine y_aComp ?_ | with_reducible refine y_rng1 ?_ | with_reducible refine y_over ?_ | with_reducible refine y_addI ?_ | with_reducible refine y_subI ?_ | with_reducible refine y_ltI ?_ | with_reducible refine y_leI ?_ | with_reducible refine y_gtI ?_ | with_reducible refine y_geI ?_ | with_reducible refine y_eqI ?_ | with_reducible refine y_neI ?_ | with_reducible refine y_eqB ?_ | with_reducible refine y_neB ?_ | with_reducible refine y_eqS ?_ | with_reducible refine y_neS ?_ | with_reducible refine y_isN ?_ | with_reducible refine y_isnN ?_ | with_reducible refine y_wget ?_ | with_reducible refine And.intro (len_ok (by with_unfolding_all exact rfl)) ?_))
      refine ix0 fun u pu => ?_
      have pu : Pl 3 29 u := pu.up (by omega)
      (repeat (first | with_reducible refine w_seq ?_ | with_reducible refine w_set ?_ | with_reducible refine w_expr ?_ | with_reducible refine w_ret ?_ | with_reducible refine w_retN ?_ | with_reducible refine w_store ?_ | with_reducible refine w_nop ?_ | with_reducible refine w_for ?_ | with_reducible refine w_asg ?_ | with_reducible refine w_ct ?_ | with_reducible refine w_brk ?_ | with_reducible refine y_f2 ?_ | with_reducible refine y_C ?_ | with_reducible refine y_var (by with_unfolding_all exact rfl) ?_ | with_reducible refine y_f1 ?_ | with_reducible refine y_B ?_ | with_reducible refine y_unB ?_ | with_reducible refine y_ch ?_ | with_reducible refine y_tru ?_ | with_reducible refine y_tbl ?_ | with_reducible refine y_and ?_ | with_reducible refine y_or ?_ | with_reducible refine y_not ?_ | with_reducible refine y_andV ?_ | with_reducible refine y_notV ?_ | with_reducible refine y_nil ?_ | with_reducible refine y_cons ?_ | with_reducible refine y_tup ?_ | with_reducible refine y_lst ?_ | with_reducible refine y_val ?_ | with_reducible refine y_loc ?_ | with_reducible refine y_dval ?_ | with_reducible refine y_dloc ?_ | with_reducible refine y_ice ?_ | with_reducible refine y_oNone ?_ | with_reducible refine y_oSome ?_ | with_reducible refine y_sl ?_ | with_reducible refine y_A ?_ | with_reducible refine y_call ?_ | with_reducible refine y_M ?_ | with_reducible refine y_aComp ?_ | with_reducible refine y_rng1 ?_ | with_reducible refine y_over ?_ | with_reducible refine y_addI ?_ | with_reducible refine y_subI ?_ | with_reducible refine y_ltI ?_ | with_reducible refine y_leI ?_ | with_reducible refine y_gtI ?_ | with_reducible refine y_geI ?_ | with_reducible refine y_eqI ?_ | with_reducible refine y_neI ?_ | with_reducible refine y_eqB ?_ | with_reducible refine y_neB ?_ | with_reducible refine y_eqS ?_ | with_reducible refine y_neS ?_ | with_reducible refine y_isN ?_ | with_reducible refine y_isnN ?_ | with_reducible refine y_wget ?_ | with_reducible refine And.intro (len_ok (by with_unfolding_all exact rfl)) ?_))
      refine ⟨show Pl 3 (29 + 1) _ from ⟨(by decide : 2 ≤ 3), fun v hv => ?_⟩, t3.mono (by omega), f1.trans (f2.trans f3)⟩
      simp only [List.mem_cons, List.mem_nil_iff, or_false] at hv
      rcases hv with rfl | rfl
      · exact Pl.strs (by decide +kernel)
      · exact pu

end Law

set_option Elab.async false
set_option linter.all false
set_option maxRecDepth 100000
set_option maxHeartbeats 2000000
namespace Law
open PySem PySem.Spec L2 DL
/-! ### how many parts -/
def w7 : List Str := ["not", "and", "or", "gives", "is", "yes", "no"]
def lettersB (z : Str) : Bool := z.cps.toList.all fun c => inStr ⟨#[c]⟩ "abcdefghijklmnopqrstuvwxyz"
def wordB : U → Bool
  | .str z => decide (1 ≤ z.length) && decide (z.length ≤ 8) && lettersB z && !decide (z ∈ w7)
  | _ => false
theorem y_inStr {a b : Str} {S : Sto} {Q : U → Sto → Prop} (h : Q (.bl (inStr a b)) S) : Y (inU (.str a) (.str b) S) Q := h
theorem y_ninT {us : List U} (ws : List Str) {w : Str} {S : Sto} {Q : U → Sto → Prop} (e : us = ws.map .str) (h : Q (.bl (!decide (w ∈ ws))) S) : Y (ninU (.str w) (.tup us) S) Q := by
  subst e
  have e : inB (.str w) (.tup (ws.map .str)) S = some (decide (w ∈ ws)) := by
    unfold inB
    dsimp only
    rw [all_flat, any_str]
    rfl
  unfold ninU
  rw [e]
  exact h
theorem all_map {us : List Nat} (g : Nat → Bool) {S : Sto} {Q : U → Sto → Prop} (h : Q (.bl (us.all g)) S) : Y (allC [.lst (us.map fun c => U.bl (g c))] S) Q := by
  have e : (us.map g).all id = us.all g := by rw [List.all_map]; rfl
  unfold allC overL DL.listOf listM
  simp only [boolsOf_map, e]
  exact h
theorem sum_map {us : List U} (g : U → Int) {S : Sto} {Q : U → Sto → Prop} (h : Q (.int (us.map g).sum) S) : Y (sumC [.lst (us.map fun c => U.int (g c))] S) Q := by
  unfold sumC overL DL.listOf listM
  simp only [intsOf_map]
  exact h
theorem wordB_str (z : Str) : wordB (.str z) = (decide (1 ≤ z.length) && decide (z.length ≤ 8) && lettersB z && !decide (z ∈ w7)) := rfl
theorem is_word {k c m : Nat} {u : U} {S : Sto} (p : Pl c m u) : Y (call (k + 1) i_is_word [u] S) fun r S' => r = .bl (wordB u) ∧ S' = S := by
  refine y_run ?_
  show WS (b_is_word (call k) [some u, none] S) _
  unfold b_is_word c_LETTERS c_WORDS_OF_TEXTS c_LONGEST_WORD
  (repeat (first | with_reducible refine w_seq ?_ | with_reducible refine w_set ?_ | with_reducible refine w_expr ?_ | with_reducible refine w_ret ?_ | with_reducible refine w_retN ?_ | with_reducible refine w_store ?_ | with_reducible refine w_nop ?_ | with_reducible refine w_for ?_ | with_reducible refine w_asg ?_ | with_reducible refine w_ct ?_ | with_reducible refine w_brk ?_ | with_reducible refine y_f2 ?_ | with_reducible refine y_C ?_ | with_reducible refine y_var (by with_unfolding_all exact rfl) ?_ | with_reducible refine y_f1 ?_ | with_reducible refine y_B ?_ | with_reducible refine y_unB ?_ | with_reducible refine y_ch ?_ | with_reducible refine y_tru ?_ | with_reducible refine y_tbl ?_ | with_reducible refine y_and ?_ | with_reducible refine y_or ?_ | with_reducible refine y_not ?_ | with_reducible refine y_andV ?_ | with_reducible refine y_notV ?_ | with_reducible refine y_nil ?_ | with_reducible refine y_cons ?_ | with_reducible refine y_tup ?_ | with_reducible refine y_lst ?_ | with_reducible refine y_val ?_ | with_reducible refine y_loc ?_ | with_reducible refine y_dval ?_ | with_reducible refine y_dloc ?_ | with_reducible refine y_ice ?_ | with_reducible refine y_oNone ?_ | with_reducible refine y_oSome ?_ | with_reducible refine y_sl ?_ | with_reducible refine y_A ?_ | with_reducible refine y_call ?_ | with_reducible refine y_M ?_ | with_reducible refine y_aComp ?_ | with_reducible refine y_rng1 ?_ | with_reducible refine y_over ?_ | with_reducible refine y_addI ?_ | with_reducible refine y_subI ?_ | with_reducible refine y_ltI ?_ | with_reducible refine y_leI ?_ | with_reducible refine y_gtI ?_ | with_reducible refine y_geI ?_ | with_reducible refine y_eqI ?_ | with_reducible refine y_neI ?_ | with_reducible refine y_eqB ?_ | with_reducible refine y_neB ?_ | with_reducible refine y_eqS ?_ | with_reducible refine y_neS ?_ | with_reducible refine y_isN ?_ | with_reducible refine y_isnN ?_ | with_reducible refine y_wget ?_ | with_reducible refine And.intro (len_ok (by with_unfolding_all exact rfl)) ?_))
  refine w_ifP (fun b => (b = true → wordB u = false) ∧ (b = false → ∃ z, u = .str z ∧ 1 ≤ z.length ∧ z.length ≤ 8)) ?_ (fun h => ?_) (fun h => ?_)
  · (repeat (first | with_reducible refine w_seq ?_ | with_reducible refine w_set ?_ | with_reducible refine w_expr ?_ | with_reducible refine w_ret ?_ | with_reducible refine w_retN ?_ | with_reducible refine w_store ?_ | with_reducible refine w_nop ?_ | with_reducible refine w_for ?_ | with_reducible refine w_asg ?_ | with_reducible refine w_ct ?_ | with_reducible refine w_brk ?_ | with_reducible refine y_f2 ?_ | with_reducible refine y_C ?_ | with_reducible refine y_var (by with_unfolding_all exact rfl) ?_ | with_reducible refine y_f1 ?_ | with_reducible refine y_B ?_ | with_reducible refine y_unB ?_ | with_reducible refine y_ch ?_ | with_reducible refine y_tru ?_ | with_reducible refine y_tbl ?_ | with_reducible refine y_and ?_ | with_reducible refine y_or ?_ | with_reducible refine y_not ?_ | with_reducible refine y_andV ?_ | with_reducible refine y_notV ?_ | with_reducible refine y_nil ?_ | with_reducible refine y_cons ?_ | with_reducible refine y_tup ?_ | with_reducible refine y_lst ?_ | with_reducible refine y_val ?_ | with_reducible refine y_loc ?_ | with_reducible refine y_dval ?_ | with_reducible refine y_dloc ?_ | with_reducible refine y_ice ?_ | with_reducible refine y_oNone ?_ | with_reducible refine y_oSome ?_ | with_reducible refine y_sl ?_ | with_reducible refine y_A ?_ | with_reducible refine y_call ?_ | with_reducible refine y_M ?_ | with_reducible refine y_aComp ?_ | with_reducible refine y_rng1 ?_ | with_reducible refine y_over ?_ | with_reducible refine y_addI ?_ | with_reducible refine y_subI ?_ | with_reducible refine y_ltI ?_ | with_reducible refine y_leI ?_ | with_reducible refine y_gtI ?_ | with_reducible refine y_geI ?_ | with_reducible refine y_eqI ?_ | with_reducible refine y_neI ?_ | with_reducible refine y_eqB ?_ | with_reducible refine y_neB ?_ | with_reducible refine y_eqS ?_ | with_reducible refine y_neS ?_ | with_reducible refine y_isN ?_ | with_reducible refine y_isnN ?_ | with_reducible refine y_wget ?_ | with_reducible refine And.intro (len_ok (by with_unfolding_all exact rfl)) ?_))
    refine y_isS p ?_
    (repeat (first | with_reducible refine w_seq ?_ | with_reducible refine w_set ?_ | with_reducible refine w_expr ?_ | with_reducible refine w_ret ?_ | with_reducible refine w_retN ?_ | with_reducible refine w_store ?_ | with_reducible refine w_nop ?_ | with_reducible refine w_for ?_ | with_reducible refine w_asg ?_ | with_reducible refine w_ct ?_ | with_reducible refine w_brk ?_ | with_reducible refine y_f2 ?_ | with_reducible refine y_C ?_ | with_reducible refine y_var (by with_unfolding_all exact rfl) ?_ | with_reducible refine y_f1 ?_ | with_reducible refine y_B ?_ | with_reducible refine y_unB ?_ | with_reducible refine y_ch ?_ | with_reducible refine y_tru ?_ | with_reducible refine y_tbl ?_ | with_reducible refine y_and ?_ | with_reducible refine y_or ?_ | with_reducible refine y_not ?_ | with_reducible refine y_andV ?_ | with_reducible refine y_notV ?_ | with_reducible refine y_nil ?_ | with_reducible refine y_cons ?_ | with_reducible refine y_tup ?_ | with_reducible refine y_lst ?_ | with_reducible refine y_val ?_ | with_reducible refine y_loc ?_ | with_reducible refine y_dval ?_ | with_reducible refine y_dloc ?_ | with_reducible refine y_ice ?_ | with_reducible refine y_oNone ?_ | with_reducible refine y_oSome ?_ | with_reducible refine y_sl ?_ | with_reducible refine y_A ?_ | with_reducible refine y_call ?_ | with_reducible refine y_M ?_ | with_reducible refine y_aComp ?_ | with_reducible refine y_rng1 ?_ | with_reducible refine y_over ?_ | with_reducible refine y_addI ?_ | with_reducible refine y_subI ?_ | with_reducible refine y_ltI ?_ | with_reducible refine y_leI ?_ | with_reducible refine y_gtI ?_ | with_reducible refine y_geI ?_ | with_reducible refine y_eqI ?_ | with_reducible refine y_neI ?_ | with_reducible refine y_eqB ?_ | with_reducible refine y_neB ?_ | with_reducible refine y_eqS ?_ | with_reducible refine y_neS ?_ | with_reducible refine y_isN ?_ | with_reducible refine y_isnN ?_ | with_reducible refine y_wget ?_ | with_reducible refine And.intro (len_ok (by with_unfolding_all exact rfl)) ?_))
    cases u with
    | str z =>
      have hz : z.length ≤ sizeLine := by cases m <;> (unfold Pl at p; exact p.2)
      show Y _ _
      (repeat (first | with_reducible refine w_seq ?_ | with_reducible refine w_set ?_ | with_reducible refine w_expr ?_ | with_reducible refine w_ret ?_ | with_reducible refine w_retN ?_ | with_reducible refine w_store ?_ | with_reducible refine w_nop ?_ | with_reducible refine w_for ?_ | with_reducible refine w_asg ?_ | with_reducible refine w_ct ?_ | with_reducible refine w_brk ?_ | with_reducible refine y_f2 ?_ | with_reducible refine y_C ?_ | with_reducible refine y_var (by with_unfolding_all exact rfl) ?_ | with_reducible refine y_f1 ?_ | with_reducible refine y_B ?_ | with_reducible refine y_unB ?_ | with_reducible refine y_ch ?_ | with_reducible refine y_tru ?_ | with_reducible refine y_tbl ?_ | with_reducible refine y_and ?_ | with_reducible refine y_or ?_ | with_reducible refine y_not ?_ | with_reducible refine y_andV ?_ | with_reducible refine y_notV ?_ | with_reducible refine y_nil ?_ | with_reducible refine y_cons ?_ | with_reducible refine y_tup ?_ | with_reducible refine y_lst ?_ | with_reducible refine y_val ?_ | with_reducible refine y_loc ?_ | with_reducible refine y_dval ?_ | with_reducible refine y_dloc ?_ | with_reducible refine y_ice ?_ | with_reducible refine y_oNone ?_ | with_reducible refine y_oSome ?_ | with_reducible refine y_sl ?_ | with_reducible refine y_A ?_ | with_reducible refine y_call ?_ | with_reducible refine y_M ?_ | with_reducible refine y_aComp ?_ | with_reducible refine y_rng1 ?_ | with_reducible refine y_over ?_ | with_reducible refine y_addI ?_ | with_reducible refine y_subI ?_ | with_reducible refine y_ltI ?_ | with_reducible refine y_leI ?_ | with_reducible refine y_gtI ?_ | with_reducible refine y_geI ?_ | with_reducible refine y_eqI ?_ | with_reducible refine y_neI ?_ | with_reducible refine y_eqB ?_ | with_reducible refine y_neB ?_ | with_reducible refine y_eqS ?_ | with_reducible refine y_neS ?_ | with_reducible refine y_isN ?_ | with_reducible refine y_isnN ?_ | with_reducible refine y_wget ?_ | with_reducible refine And.intro (len_ok (by with_unfolding_all exact rfl)) ?_))
      refine y_lenZ hz ?_
      (repeat (first | with_reducible refine w_seq ?_ | with_reducible refine w_set ?_ | with_reducible refine w_expr ?_ | with_reducible refine w_ret ?_ | with_reducible refine w_retN ?_ | with_reducible refine w_store ?_ | with_reducible refine w_nop ?_ | with_reducible refine w_for ?_ | with_reducible refine w_asg ?_ | with_reducible refine w_ct ?_ | with_reducible refine w_brk ?_ | with_reducible refine y_f2 ?_ | with_reducible refine y_C ?_ | with_reducible refine y_var (by with_unfolding_all exact rfl) ?_ | with_reducible refine y_f1 ?_ | with_reducible refine y_B ?_ | with_reducible refine y_unB ?_ | with_reducible refine y_ch ?_ | with_reducible refine y_tru ?_ | with_reducible refine y_tbl ?_ | with_reducible refine y_and ?_ | with_reducible refine y_or ?_ | with_reducible refine y_not ?_ | with_reducible refine y_andV ?_ | with_reducible refine y_notV ?_ | with_reducible refine y_nil ?_ | with_reducible refine y_cons ?_ | with_reducible refine y_tup ?_ | with_reducible refine y_lst ?_ | with_reducible refine y_val ?_ | with_reducible refine y_loc ?_ | with_reducible refine y_dval ?_ | with_reducible refine y_dloc ?_ | with_reducible refine y_ice ?_ | with_reducible refine y_oNone ?_ | with_reducible refine y_oSome ?_ | with_reducible refine y_sl ?_ | with_reducible refine y_A ?_ | with_reducible refine y_call ?_ | with_reducible refine y_M ?_ | with_reducible refine y_aComp ?_ | with_reducible refine y_rng1 ?_ | with_reducible refine y_over ?_ | with_reducible refine y_addI ?_ | with_reducible refine y_subI ?_ | with_reducible refine y_ltI ?_ | with_reducible refine y_leI ?_ | with_reducible refine y_gtI ?_ | with_reducible refine y_geI ?_ | with_reducible refine y_eqI ?_ | with_reducible refine y_neI ?_ | with_reducible refine y_eqB ?_ | with_reducible refine y_neB ?_ | with_reducible refine y_eqS ?_ | with_reducible refine y_neS ?_ | with_reducible refine y_isN ?_ | with_reducible refine y_isnN ?_ | with_reducible refine y_wget ?_ | with_reducible refine And.intro (len_ok (by with_unfolding_all exact rfl)) ?_))
      refine ite_b (fun c1 => ?_) (fun c1 => ?_)
      · (repeat (first | with_reducible refine w_seq ?_ | with_reducible refine w_set ?_ | with_reducible refine w_expr ?_ | with_reducible refine w_ret ?_ | with_reducible refine w_retN ?_ | with_reducible refine w_store ?_ | with_reducible refine w_nop ?_ | with_reducible refine w_for ?_ | with_reducible refine w_asg ?_ | with_reducible refine w_ct ?_ | with_reducible refine w_brk ?_ | with_reducible refine y_f2 ?_ | with_reducible refine y_C ?_ | with_reducible refine y_var (by with_unfolding_all exact rfl) ?_ | with_reducible refine y_f1 ?_ | with_reducible refine y_B ?_ | with_reducible refine y_unB ?_ | with_reducible refine y_ch ?_ | with_reducible refine y_tru ?_ | with_reducible refine y_tbl ?_ | with_reducible refine y_and ?_ | with_reducible refine y_or ?_ | with_reducible refine y_not ?_ | with_reducible refine y_andV ?_ | with_reducible refine y_notV ?_ | with_reducible refine y_nil ?_ | with_reducible refine y_cons ?_ | with_reducible refine y_tup ?_ | with_reducible refine y_lst ?_ | with_reducible refine y_val ?_ | with_reducible refine y_loc ?_ | with_reducible refine y_dval ?_ | with_reducible refine y_dloc ?_ | with_reducible refine y_ice ?_ | with_reducible refine y_oNone ?_ | with_reducible refine y_oSome ?_ | with_reducible refine y_sl ?_ | with_reducible refine y_A ?_ | with_reducible refine y_call ?_ | with_reducible refine y_M ?_ | with_reducible refine y_aComp ?_ | with_reducible refine y_rng1 ?_ | with_reducible refine y_over ?_ | with_reducible refine y_addI ?_ | with_reducible refine y_subI ?_ | with_reducible refine y_ltI ?_ | with_reducible refine y_leI ?_ | with_reducible refine y_gtI ?_ | with_reducible refine y_geI ?_ | with_reducible refine y_eqI ?_ | with_reducible refine y_neI ?_ | with_reducible refine y_eqB ?_ | with_reducible refine y_neB ?_ | with_reducible refine y_eqS ?_ | with_reducible refine y_neS ?_ | with_reducible refine y_isN ?_ | with_reducible refine y_isnN ?_ | with_reducible refine y_wget ?_ | with_reducible refine And.intro (len_ok (by with_unfolding_all exact rfl)) ?_))
        refine ⟨rfl, fun h => ?_, fun h => ⟨z, rfl, ?_⟩⟩
        · rw [wordB_str]
          have : ¬ z.length ≤ 8 := fun q => by
            rw [decide_eq_true (by omega : (z.length : Int) ≤ 8)] at h
            cases h
          rw [decide_eq_false this, Bool.and_false]
          rfl
        · have h1 := of_decide_eq_true c1
          have h2 : decide ((z.length : Int) ≤ 8) = true := by
            cases q : decide ((z.length : Int) ≤ 8) with
            | true => rfl
            | false => rw [q] at h; cases h
          have h2 := of_decide_eq_true h2
          omega
      · (repeat (first | with_reducible refine w_seq ?_ | with_reducible refine w_set ?_ | with_reducible refine w_expr ?_ | with_reducible refine w_ret ?_ | with_reducible refine w_retN ?_ | with_reducible refine w_store ?_ | with_reducible refine w_nop ?_ | with_reducible refine w_for ?_ | with_reducible refine w_asg ?_ | with_reducible refine w_ct ?_ | with_reducible refine w_brk ?_ | with_reducible refine y_f2 ?_ | with_reducible refine y_C ?_ | with_reducible refine y_var (by with_unfolding_all exact rfl) ?_ | with_reducible refine y_f1 ?_ | with_reducible refine y_B ?_ | with_reducible refine y_unB ?_ | with_reducible refine y_ch ?_ | with_reducible refine y_tru ?_ | with_reducible refine y_tbl ?_ | with_reducible refine y_and ?_ | with_reducible refine y_or ?_ | with_reducible refine y_not ?_ | with_reducible refine y_andV ?_ | with_reducible refine y_notV ?_ | with_reducible refine y_nil ?_ | with_reducible refine y_cons ?_ | with_reducible refine y_tup ?_ | with_reducible refine y_lst ?_ | with_reducible refine y_val ?_ | with_reducible refine y_loc ?_ | with_reducible refine y_dval ?_ | with_reducible refine y_dloc ?_ | with_reducible refine y_ice ?_ | with_reducible refine y_oNone ?_ | with_reducible refine y_oSome ?_ | with_reducible refine y_sl ?_ | with_reducible refine y_A ?_ | with_reducible refine y_call ?_ | with_reducible refine y_M ?_ | with_reducible refine y_aComp ?_ | with_reducible refine y_rng1 ?_ | with_reducible refine y_over ?_ | with_reducible refine y_addI ?_ | with_reducible refine y_subI ?_ | with_reducible refine y_ltI ?_ | with_reducible refine y_leI ?_ | with_reducible refine y_gtI ?_ | with_reducible refine y_geI ?_ | with_reducible refine y_eqI ?_ | with_reducible refine y_neI ?_ | with_reducible refine y_eqB ?_ | with_reducible refine y_neB ?_ | with_reducible refine y_eqS ?_ | with_reducible refine y_neS ?_ | with_reducible refine y_isN ?_ | with_reducible refine y_isnN ?_ | with_reducible refine y_wget ?_ | with_reducible refine And.intro (len_ok (by with_unfolding_all exact rfl)) ?_))
        refine ⟨rfl, fun _ => ?_, fun h => by cases h⟩
        rw [wordB_str]
        have := of_decide_eq_false c1
        rw [decide_eq_false (by omega : ¬ 1 ≤ z.length)]
        rfl
    | _ => exact ⟨rfl, fun _ => rfl, fun h => by cases h⟩
  · (repeat (first | with_reducible refine w_seq ?_ | with_reducible refine w_set ?_ | with_reducible refine w_expr ?_ | with_reducible refine w_ret ?_ | with_reducible refine w_retN ?_ | with_reducible refine w_store ?_ | with_reducible refine w_nop ?_ | with_reducible refine w_for ?_ | with_reducible refine w_asg ?_ | with_reducible refine w_ct ?_ | with_reducible refine w_brk ?_ | with_reducible refine y_f2 ?_ | with_reducible refine y_C ?_ | with_reducible refine y_var (by with_unfolding_all exact rfl) ?_ | with_reducible refine y_f1 ?_ | with_reducible refine y_B ?_ | with_reducible refine y_unB ?_ | with_reducible refine y_ch ?_ | with_reducible refine y_tru ?_ | with_reducible refine y_tbl ?_ | with_reducible refine y_and ?_ | with_reducible refine y_or ?_ | with_reducible refine y_not ?_ | with_reducible refine y_andV ?_ | with_reducible refine y_notV ?_ | with_reducible refine y_nil ?_ | with_reducible refine y_cons ?_ | with_reducible refine y_tup ?_ | with_reducible refine y_lst ?_ | with_reducible refine y_val ?_ | with_reducible refine y_loc ?_ | with_reducible refine y_dval ?_ | with_reducible refine y_dloc ?_ | with_reducible refine y_ice ?_ | with_reducible refine y_oNone ?_ | with_reducible refine y_oSome ?_ | with_reducible refine y_sl ?_ | with_reducible refine y_A ?_ | with_reducible refine y_call ?_ | with_reducible refine y_M ?_ | with_reducible refine y_aComp ?_ | with_reducible refine y_rng1 ?_ | with_reducible refine y_over ?_ | with_reducible refine y_addI ?_ | with_reducible refine y_subI ?_ | with_reducible refine y_ltI ?_ | with_reducible refine y_leI ?_ | with_reducible refine y_gtI ?_ | with_reducible refine y_geI ?_ | with_reducible refine y_eqI ?_ | with_reducible refine y_neI ?_ | with_reducible refine y_eqB ?_ | with_reducible refine y_neB ?_ | with_reducible refine y_eqS ?_ | with_reducible refine y_neS ?_ | with_reducible refine y_isN ?_ | with_reducible refine y_isnN ?_ | with_reducible refine y_wget ?_ | with_reducible refine And.intro (len_ok (by with_unfolding_all exact rfl)) ?_))
    exact ⟨by rw [h.1 rfl], rfl⟩
  · obtain ⟨z, rfl, h1, h8⟩ := h.2 rfl
    (repeat (first | with_reducible refine w_seq ?_ | with_reducible refine w_set ?_ | with_reducible refine w_expr ?_ | with_reducible refine w_ret ?_ | with_reducible refine w_retN ?_ | with_reducible refine w_store ?_ | with_reducible refine w_nop ?_ | with_reducible refine w_for ?_ | with_reducible refine w_asg ?_ | with_reducible refine w_ct ?_ | with_reducible refine w_brk ?_ | with_reducible refine y_f2 ?_ | with_reducible refine y_C ?_ | with_reducible refine y_var (by with_unfolding_all exact rfl) ?_ | with_reducible refine y_f1 ?_ | with_reducible refine y_B ?_ | with_reducible refine y_unB ?_ | with_reducible refine y_ch ?_ | with_reducible refine y_tru ?_ | with_reducible refine y_tbl ?_ | with_reducible refine y_and ?_ | with_reducible refine y_or ?_ | with_reducible refine y_not ?_ | with_reducible refine y_andV ?_ | with_reducible refine y_notV ?_ | with_reducible refine y_nil ?_ | with_reducible refine y_cons ?_ | with_reducible refine y_tup ?_ | with_reducible refine y_lst ?_ | with_reducible refine y_val ?_ | with_reducible refine y_loc ?_ | with_reducible refine y_dval ?_ | with_reducible refine y_dloc ?_ | with_reducible refine y_ice ?_ | with_reducible refine y_oNone ?_ | with_reducible refine y_oSome ?_ | with_reducible refine y_sl ?_ | with_reducible refine y_A ?_ | with_reducible refine y_call ?_ | with_reducible refine y_M ?_ | with_reducible refine y_aComp ?_ | with_reducible refine y_rng1 ?_ | with_reducible refine y_over ?_ | with_reducible refine y_addI ?_ | with_reducible refine y_subI ?_ | with_reducible refine y_ltI ?_ | with_reducible refine y_leI ?_ | with_reducible refine y_gtI ?_ | with_reducible refine y_geI ?_ | with_reducible refine y_eqI ?_ | with_reducible refine y_neI ?_ | with_reducible refine y_eqB ?_ | with_reducible refine y_neB ?_ | with_reducible refine y_eqS ?_ | with_reducible refine y_neS ?_ | with_reducible refine y_isN ?_ | with_reducible refine y_isnN ?_ | with_reducible refine y_wget ?_ | with_reducible refine And.intro (len_ok (by with_unfolding_all exact rfl)) ?_))
    refine ⟨_, rfl, ?_⟩
    refine y_compM (fun v => match v with | .str c => .bl (inStr c "abcdefghijklmnopqrstuvwxyz") | v => v) _ _ ?_ (by rw [List.length_map, sizeL, Array.length_toList]; show 0 + z.length ≤ _; omega) ?_
    · intro v hv
      obtain ⟨c, hc, rfl⟩ := List.mem_map.mp hv
      refine ⟨_, rfl, ?_⟩
      (repeat (first | with_reducible refine w_seq ?_ | with_reducible refine w_set ?_ | with_reducible refine w_expr ?_ | with_reducible refine w_ret ?_ | with_reducible refine w_retN ?_ | with_reducible refine w_store ?_ | with_reducible refine w_nop ?_ | with_reducible refine w_for ?_ | with_reducible refine w_asg ?_ | with_reducible refine w_ct ?_ | with_reducible refine w_brk ?_ | with_reducible refine y_f2 ?_ | with_reducible refine y_C ?_ | with_reducible refine y_var (by with_unfolding_all exact rfl) ?_ | with_reducible refine y_f1 ?_ | with_reducible refine y_B ?_ | with_reducible refine y_unB ?_ | with_reducible refine y_ch ?_ | with_reducible refine y_tru ?_ | with_reducible refine y_tbl ?_ | with_reducible refine y_and ?_ | with_reducible refine y_or ?_ | with_reducible refine y_not ?_ | with_reducible refine y_andV ?_ | with_reducible refine y_notV ?_ | with_reducible refine y_nil ?_ | with_reducible refine y_cons ?_ | with_reducible refine y_tup ?_ | with_reducible refine y_lst ?_ | with_reducible refine y_val ?_ | with_reducible refine y_loc ?_ | with_reducible refine y_dval ?_ | with_reducible refine y_dloc ?_ | with_reducible refine y_ice ?_ | with_reducible refine y_oNone ?_ | with_reducible refine y_oSome ?_ | with_reducible refine y_sl ?_ | with_reducible refine y_A ?_ | with_reducible refine y_call ?_ | with_reducible refine y_M ?_ | with_reducible refine y_aComp ?_ | with_reducible refine y_rng1 ?_ | with_reducible refine y_over ?_ | with_reducible refine y_addI ?_ | with_reducible refine y_subI ?_ | with_reducible refine y_ltI ?_ | with_reducible refine y_leI ?_ | with_reducible refine y_gtI ?_ | with_reducible refine y_geI ?_ | with_reducible refine y_eqI ?_ | with_reducible refine y_neI ?_ | with_reducible refine y_eqB ?_ | with_reducible refine y_neB ?_ | with_reducible refine y_eqS ?_ | with_reducible refine y_neS ?_ | with_reducible refine y_isN ?_ | with_reducible refine y_isnN ?_ | with_reducible refine y_wget ?_ | with_reducible refine And.intro (len_ok (by with_unfolding_all exact rfl)) ?_))
      refine y_inStr ?_
      exact ⟨rfl, rfl⟩
    (repeat (first | with_reducible refine w_seq ?_ | with_reducible refine w_set ?_ | with_reducible refine w_expr ?_ | with_reducible refine w_ret ?_ | with_reducible refine w_retN ?_ | with_reducible refine w_store ?_ | with_reducible refine w_nop ?_ | with_reducible refine w_for ?_ | with_reducible refine w_asg ?_ | with_reducible refine w_ct ?_ | with_reducible refine w_brk ?_ | with_reducible refine y_f2 ?_ | with_reducible refine y_C ?_ | with_reducible refine y_var (by with_unfolding_all exact rfl) ?_ | with_reducible refine y_f1 ?_ | with_reducible refine y_B ?_ | with_reducible refine y_unB ?_ | with_reducible refine y_ch ?_ | with_reducible refine y_tru ?_ | with_reducible refine y_tbl ?_ | with_reducible refine y_and ?_ | with_reducible refine y_or ?_ | with_reducible refine y_not ?_ | with_reducible refine y_andV ?_ | with_reducible refine y_notV ?_ | with_reducible refine y_nil ?_ | with_reducible refine y_cons ?_ | with_reducible refine y_tup ?_ | with_reducible refine y_lst ?_ | with_reducible refine y_val ?_ | with_reducible refine y_loc ?_ | with_reducible refine y_dval ?_ | with_reducible refine y_dloc ?_ | with_reducible refine y_ice ?_ | with_reducible refine y_oNone ?_ | with_reducible refine y_oSome ?_ | with_reducible refine y_sl ?_ | with_reducible refine y_A ?_ | with_reducible refine y_call ?_ | with_reducible refine y_M ?_ | with_reducible refine y_aComp ?_ | with_reducible refine y_rng1 ?_ | with_reducible refine y_over ?_ | with_reducible refine y_addI ?_ | with_reducible refine y_subI ?_ | with_reducible refine y_ltI ?_ | with_reducible refine y_leI ?_ | with_reducible refine y_gtI ?_ | with_reducible refine y_geI ?_ | with_reducible refine y_eqI ?_ | with_reducible refine y_neI ?_ | with_reducible refine y_eqB ?_ | with_reducible refine y_neB ?_ | with_reducible refine y_eqS ?_ | with_reducible refine y_neS ?_ | with_reducible refine y_isN ?_ | with_reducible refine y_isnN ?_ | with_reducible refine y_wget ?_ | with_reducible refine And.intro (len_ok (by with_unfolding_all exact rfl)) ?_))
    rw [List.nil_append, List.map_map]
    refine all_map (fun c => inStr ⟨#[c]⟩ "abcdefghijklmnopqrstuvwxyz") ?_
    (repeat (first | with_reducible refine w_seq ?_ | with_reducible refine w_set ?_ | with_reducible refine w_expr ?_ | with_reducible refine w_ret ?_ | with_reducible refine w_retN ?_ | with_reducible refine w_store ?_ | with_reducible refine w_nop ?_ | with_reducible refine w_for ?_ | with_reducible refine w_asg ?_ | with_reducible refine w_ct ?_ | with_reducible refine w_brk ?_ | with_reducible refine y_f2 ?_ | with_reducible refine y_C ?_ | with_reducible refine y_var (by with_unfolding_all exact rfl) ?_ | with_reducible refine y_f1 ?_ | with_reducible refine y_B ?_ | with_reducible refine y_unB ?_ | with_reducible refine y_ch ?_ | with_reducible refine y_tru ?_ | with_reducible refine y_tbl ?_ | with_reducible refine y_and ?_ | with_reducible refine y_or ?_ | with_reducible refine y_not ?_ | with_reducible refine y_andV ?_ | with_reducible refine y_notV ?_ | with_reducible refine y_nil ?_ | with_reducible refine y_cons ?_ | with_reducible refine y_tup ?_ | with_reducible refine y_lst ?_ | with_reducible refine y_val ?_ | with_reducible refine y_loc ?_ | with_reducible refine y_dval ?_ | with_reducible refine y_dloc ?_ | with_reducible refine y_ice ?_ | with_reducible refine y_oNone ?_ | with_reducible refine y_oSome ?_ | with_reducible refine y_sl ?_ | with_reducible refine y_A ?_ | with_reducible refine y_call ?_ | with_reducible refine y_M ?_ | with_reducible refine y_aComp ?_ | with_reducible refine y_rng1 ?_ | with_reducible refine y_over ?_ | with_reducible refine y_addI ?_ | with_reducible refine y_subI ?_ | with_reducible refine y_ltI ?_ | with_reducible refine y_leI ?_ | with_reducible refine y_gtI ?_ | with_reducible refine y_geI ?_ | with_reducible refine y_eqI ?_ | with_reducible refine y_neI ?_ | with_reducible refine y_eqB ?_ | with_reducible refine y_neB ?_ | with_reducible refine y_eqS ?_ | with_reducible refine y_neS ?_ | with_reducible refine y_isN ?_ | with_reducible refine y_isnN ?_ | with_reducible refine y_wget ?_ | with_reducible refine And.intro (len_ok (by with_unfolding_all exact rfl)) ?_))
    refine ite_b (fun c1 => ?_) (fun c1 => ?_)
    · (repeat (first | with_reducible refine w_seq ?_ | with_reducible refine w_set ?_ | with_reducible refine w_expr ?_ | with_reducible refine w_ret ?_ | with_reducible refine w_retN ?_ | with_reducible refine w_store ?_ | with_reducible refine w_nop ?_ | with_reducible refine w_for ?_ | with_reducible refine w_asg ?_ | with_reducible refine w_ct ?_ | with_reducible refine w_brk ?_ | with_reducible refine y_f2 ?_ | with_reducible refine y_C ?_ | with_reducible refine y_var (by with_unfolding_all exact rfl) ?_ | with_reducible refine y_f1 ?_ | with_reducible refine y_B ?_ | with_reducible refine y_unB ?_ | with_reducible refine y_ch ?_ | with_reducible refine y_tru ?_ | with_reducible refine y_tbl ?_ | with_reducible refine y_and ?_ | with_reducible refine y_or ?_ | with_reducible refine y_not ?_ | with_reducible refine y_andV ?_ | with_reducible refine y_notV ?_ | with_reducible refine y_nil ?_ | with_reducible refine y_cons ?_ | with_reducible refine y_tup ?_ | with_reducible refine y_lst ?_ | with_reducible refine y_val ?_ | with_reducible refine y_loc ?_ | with_reducible refine y_dval ?_ | with_reducible refine y_dloc ?_ | with_reducible refine y_ice ?_ | with_reducible refine y_oNone ?_ | with_reducible refine y_oSome ?_ | with_reducible refine y_sl ?_ | with_reducible refine y_A ?_ | with_reducible refine y_call ?_ | with_reducible refine y_M ?_ | with_reducible refine y_aComp ?_ | with_reducible refine y_rng1 ?_ | with_reducible refine y_over ?_ | with_reducible refine y_addI ?_ | with_reducible refine y_subI ?_ | with_reducible refine y_ltI ?_ | with_reducible refine y_leI ?_ | with_reducible refine y_gtI ?_ | with_reducible refine y_geI ?_ | with_reducible refine y_eqI ?_ | with_reducible refine y_neI ?_ | with_reducible refine y_eqB ?_ | with_reducible refine y_neB ?_ | with_reducible refine y_eqS ?_ | with_reducible refine y_neS ?_ | with_reducible refine y_isN ?_ | with_reducible refine y_isnN ?_ | with_reducible refine y_wget ?_ | with_reducible refine And.intro (len_ok (by with_unfolding_all exact rfl)) ?_))
      refine y_ninT w7 rfl ?_
      refine ⟨?_, rfl⟩
      rw [wordB_str]
      unfold lettersB
      rw [c1, decide_eq_true h1, decide_eq_true h8]
      rfl
    · refine ⟨?_, rfl⟩
      rw [wordB_str]
      unfold lettersB
      rw [c1, decide_eq_true h1, decide_eq_true h8]
      rfl

end Law

set_option Elab.async false
set_option linter.all false
set_option maxRecDepth 100000
set_option maxHeartbeats 2000000
namespace Law
open PySem PySem.Spec L2 DL
def arity (z : Str) : Option Nat := if ("yes" : Str) = z then some 0 else if ("no" : Str) = z then some 0 else if ("not" : Str) = z then some 1 else if ("and" : Str) = z then some 2 else if ("or" : Str) = z then some 2 else if ("if" : Str) = z then some 2 else if ("same" : Str) = z then some 2 else none
theorem look_many (z : Str) : lookT t_MANY z = (arity z).map (fun m : Nat => U.int (m : Int)) := by
  unfold t_MANY lookT lookT lookT lookT lookT lookT lookT lookT arity
  split; · rfl
  split; · rfl
  split; · rfl
  split; · rfl
  split; · rfl
  split; · rfl
  split <;> rfl
theorem arity_le {z : Str} {m : Nat} (h : arity z = some m) : m ≤ 2 := by
  unfold arity at h
  split at h; · cases h; decide
  split at h; · cases h; decide
  split at h; · cases h; decide
  split at h; · cases h; decide
  split at h; · cases h; decide
  split at h; · cases h; decide
  split at h
  · cases h; decide
  · cases h
/-- how many parts, 1000 for what is no saying; n levels are left -/
def nameCnt : List U → Int
  | [w] => if wordB w then 1 else 1000
  | _ => 1000
def opCnt (f : U → Int) (z : Str) (us : List U) : Int := match arity z with
  | some m => if us.length = m then 1 + (us.map f).sum else 1000
  | none => 1000
def cntT (f : U → Int) : U → Int
  | .tup (.str z :: us) => if z = "name" then nameCnt us else opCnt f z us
  | _ => 1000
def cnt : Nat → U → Int
  | 0 => fun _ => 1000
  | n + 1 => cntT (cnt n)
theorem cnt_zero (u : U) : cnt 0 u = 1000 := rfl
theorem cnt_bad {n : Nat} {u : U} (h : ∀ z us, u ≠ .tup (.str z :: us)) : cnt n u = 1000 := by
  cases n with
  | zero => exact cnt_zero u
  | succ n =>
    show cntT (cnt n) u = 1000
    cases u with
    | tup us =>
      cases us with
      | nil => rfl
      | cons v us =>
        cases v with
        | str z => exact absurd rfl (h z us)
        | _ => rfl
    | _ => rfl
theorem cnt_name {n : Nat} {us : List U} : cnt (n + 1) (.tup (.str "name" :: us)) = nameCnt us := by
  show (if ("name" : Str) = "name" then nameCnt us else opCnt (cnt n) "name" us) = _
  rw [if_pos rfl]
theorem cnt_op {n : Nat} {z : Str} {us : List U} (h : ¬ z = "name") : cnt (n + 1) (.tup (.str z :: us)) = opCnt (cnt n) z us := if_neg h
theorem op_none {f : U → Int} {z : Str} {us : List U} (h : arity z = none) : opCnt f z us = 1000 := by unfold opCnt; rw [h]
theorem op_some {f : U → Int} {z : Str} {us : List U} {m : Nat} (h : arity z = some m) : opCnt f z us = if us.length = m then 1 + (us.map f).sum else 1000 := by unfold opCnt; rw [h]
theorem name_bad {us : List U} (h : us.length ≠ 1) : nameCnt us = 1000 := by
  cases us with
  | nil => rfl
  | cons u r => cases r with
    | nil => exact absurd rfl h
    | cons v r => rfl
theorem cnt_pos : ∀ (n : Nat) (u : U), 1 ≤ cnt n u := by
  intro n
  induction n with
  | zero => intro u; rw [cnt_zero]; decide
  | succ n ih =>
    have sum : ∀ us : List U, 0 ≤ (us.map (cnt n)).sum := by
      intro us
      induction us with
      | nil => exact Int.le_refl _
      | cons u us ih2 => rw [List.map_cons, List.sum_cons]; have := ih u; omega
    intro u
    by_cases h : ∃ z us, u = .tup (.str z :: us)
    · obtain ⟨z, us, rfl⟩ := h
      by_cases q : z = "name"
      · subst q
        rw [cnt_name]
        unfold nameCnt
        split
        · split <;> decide
        · decide
      · rw [cnt_op q]
        unfold opCnt
        split
        · split
          · have := sum us; omega
          · decide
        · decide
    · rw [cnt_bad fun z us e => h ⟨z, us, e⟩]; decide
theorem sum_pos (n : Nat) (us : List U) : 0 ≤ (us.map (cnt n)).sum := by
  induction us with
  | nil => exact Int.le_refl _
  | cons u us ih => rw [List.map_cons, List.sum_cons]; have := cnt_pos n u; omega
/-- a count of parts_in against the true one -/
def Rel (i c : Int) : Prop := (i ≤ 400 ∧ i = c) ∨ (400 < i ∧ 400 < c)
theorem rel_401 {i : Int} (h : i = 1000) : Rel 401 i := .inr ⟨by decide, by omega⟩
def PartsP (n : Nat) (u : U) (S : Sto) (r : U) (S' : Sto) : Prop := S' = S ∧ ∃ i, r = .int i ∧ Rel i (cnt n u)
theorem y_ixT0 {u : U} {us : List U} {S : Sto} {Q : U → Sto → Prop} (h : Q u S) : Y (ixU (.tup (u :: us)) (.int 0) S) Q := y_ix (show atI (u :: us) 0 = some u from atI_nat (j := 0) rfl) h
theorem y_ixT1 {u v : U} {us : List U} {S : Sto} {Q : U → Sto → Prop} (h : Q v S) : Y (ixU (.tup (u :: v :: us)) (.int 1) S) Q := y_ix (show atI (u :: v :: us) 1 = some v from atI_nat (j := 1) rfl) h
theorem sl1 (u : U) (us : List U) : cutU (u :: us) (some 1) none = us := cut_suf (u :: us) 1
theorem parts_step {c : Nat} (n k : Nat) {m : Nat} {u : U} {S : Sto} (p : Pl c m u)
    (hrec : ∀ e, n = e + 1 → ∀ {m : Nat} {u : U}, Pl c m u → Y (call (k + 1) i_parts_in [u, .int (26 - e)] S) (PartsP e u S)) :
    Y (call (k + 2) i_parts_in [u, .int (26 - n)] S) (PartsP n u S) := by
  refine y_run ?_
  show WS (b_parts_in (call (k + 1)) [some u, some (.int (26 - n)), none, none, none] S) _
  unfold b_parts_in c_DEEPEST c_MOST_PARTS
  (repeat (first | with_reducible refine w_seq ?_ | with_reducible refine w_set ?_ | with_reducible refine w_expr ?_ | with_reducible refine w_ret ?_ | with_reducible refine w_retN ?_ | with_reducible refine w_store ?_ | with_reducible refine w_nop ?_ | with_reducible refine w_for ?_ | with_reducible refine w_asg ?_ | with_reducible refine w_ct ?_ | with_reducible refine w_brk ?_ | with_reducible refine y_f2 ?_ | with_reducible refine y_C ?_ | with_reducible refine y_var (by with_unfolding_all exact rfl) ?_ | with_reducible refine y_f1 ?_ | with_reducible refine y_B ?_ | with_reducible refine y_unB ?_ | with_reducible refine y_ch ?_ | with_reducible refine y_tru ?_ | with_reducible refine y_tbl ?_ | with_reducible refine y_and ?_ | with_reducible refine y_or ?_ | with_reducible refine y_not ?_ | with_reducible refine y_andV ?_ | with_reducible refine y_notV ?_ | with_reducible refine y_nil ?_ | with_reducible refine y_cons ?_ | with_reducible refine y_tup ?_ | with_reducible refine y_lst ?_ | with_reducible refine y_val ?_ | with_reducible refine y_loc ?_ | with_reducible refine y_dval ?_ | with_reducible refine y_dloc ?_ | with_reducible refine y_ice ?_ | with_reducible refine y_oNone ?_ | with_reducible refine y_oSome ?_ | with_reducible refine y_sl ?_ | with_reducible refine y_A ?_ | with_reducible refine y_call ?_ | with_reducible refine y_M ?_ | with_reducible refine y_aComp ?_ | with_reducible refine y_rng1 ?_ | with_reducible refine y_over ?_ | with_reducible refine y_addI ?_ | with_reducible refine y_subI ?_ | with_reducible refine y_ltI ?_ | with_reducible refine y_leI ?_ | with_reducible refine y_gtI ?_ | with_reducible refine y_geI ?_ | with_reducible refine y_eqI ?_ | with_reducible refine y_neI ?_ | with_reducible refine y_eqB ?_ | with_reducible refine y_neB ?_ | with_reducible refine y_eqS ?_ | with_reducible refine y_neS ?_ | with_reducible refine y_isN ?_ | with_reducible refine y_isnN ?_ | with_reducible refine y_wget ?_ | with_reducible refine And.intro (len_ok (by with_unfolding_all exact rfl)) ?_))
  refine w_ifP (fun b => (b = true → cnt n u = 1000) ∧ (b = false → ∃ z us e, u = .tup (.str z :: us) ∧ n = e + 1)) ?_ (fun h => ?_) (fun h => ?_)
  · (repeat (first | with_reducible refine w_seq ?_ | with_reducible refine w_set ?_ | with_reducible refine w_expr ?_ | with_reducible refine w_ret ?_ | with_reducible refine w_retN ?_ | with_reducible refine w_store ?_ | with_reducible refine w_nop ?_ | with_reducible refine w_for ?_ | with_reducible refine w_asg ?_ | with_reducible refine w_ct ?_ | with_reducible refine w_brk ?_ | with_reducible refine y_f2 ?_ | with_reducible refine y_C ?_ | with_reducible refine y_var (by with_unfolding_all exact rfl) ?_ | with_reducible refine y_f1 ?_ | with_reducible refine y_B ?_ | with_reducible refine y_unB ?_ | with_reducible refine y_ch ?_ | with_reducible refine y_tru ?_ | with_reducible refine y_tbl ?_ | with_reducible refine y_and ?_ | with_reducible refine y_or ?_ | with_reducible refine y_not ?_ | with_reducible refine y_andV ?_ | with_reducible refine y_notV ?_ | with_reducible refine y_nil ?_ | with_reducible refine y_cons ?_ | with_reducible refine y_tup ?_ | with_reducible refine y_lst ?_ | with_reducible refine y_val ?_ | with_reducible refine y_loc ?_ | with_reducible refine y_dval ?_ | with_reducible refine y_dloc ?_ | with_reducible refine y_ice ?_ | with_reducible refine y_oNone ?_ | with_reducible refine y_oSome ?_ | with_reducible refine y_sl ?_ | with_reducible refine y_A ?_ | with_reducible refine y_call ?_ | with_reducible refine y_M ?_ | with_reducible refine y_aComp ?_ | with_reducible refine y_rng1 ?_ | with_reducible refine y_over ?_ | with_reducible refine y_addI ?_ | with_reducible refine y_subI ?_ | with_reducible refine y_ltI ?_ | with_reducible refine y_leI ?_ | with_reducible refine y_gtI ?_ | with_reducible refine y_geI ?_ | with_reducible refine y_eqI ?_ | with_reducible refine y_neI ?_ | with_reducible refine y_eqB ?_ | with_reducible refine y_neB ?_ | with_reducible refine y_eqS ?_ | with_reducible refine y_neS ?_ | with_reducible refine y_isN ?_ | with_reducible refine y_isnN ?_ | with_reducible refine y_wget ?_ | with_reducible refine And.intro (len_ok (by with_unfolding_all exact rfl)) ?_))
    refine ite_b (fun c1 => ?_) (fun c1 => ?_)
    · have c1 := of_decide_eq_true c1
      refine ⟨rfl, fun _ => ?_, fun h => by cases h⟩
      rw [show n = 0 by omega, cnt_zero]
    have c1 := of_decide_eq_false c1
    (repeat (first | with_reducible refine w_seq ?_ | with_reducible refine w_set ?_ | with_reducible refine w_expr ?_ | with_reducible refine w_ret ?_ | with_reducible refine w_retN ?_ | with_reducible refine w_store ?_ | with_reducible refine w_nop ?_ | with_reducible refine w_for ?_ | with_reducible refine w_asg ?_ | with_reducible refine w_ct ?_ | with_reducible refine w_brk ?_ | with_reducible refine y_f2 ?_ | with_reducible refine y_C ?_ | with_reducible refine y_var (by with_unfolding_all exact rfl) ?_ | with_reducible refine y_f1 ?_ | with_reducible refine y_B ?_ | with_reducible refine y_unB ?_ | with_reducible refine y_ch ?_ | with_reducible refine y_tru ?_ | with_reducible refine y_tbl ?_ | with_reducible refine y_and ?_ | with_reducible refine y_or ?_ | with_reducible refine y_not ?_ | with_reducible refine y_andV ?_ | with_reducible refine y_notV ?_ | with_reducible refine y_nil ?_ | with_reducible refine y_cons ?_ | with_reducible refine y_tup ?_ | with_reducible refine y_lst ?_ | with_reducible refine y_val ?_ | with_reducible refine y_loc ?_ | with_reducible refine y_dval ?_ | with_reducible refine y_dloc ?_ | with_reducible refine y_ice ?_ | with_reducible refine y_oNone ?_ | with_reducible refine y_oSome ?_ | with_reducible refine y_sl ?_ | with_reducible refine y_A ?_ | with_reducible refine y_call ?_ | with_reducible refine y_M ?_ | with_reducible refine y_aComp ?_ | with_reducible refine y_rng1 ?_ | with_reducible refine y_over ?_ | with_reducible refine y_addI ?_ | with_reducible refine y_subI ?_ | with_reducible refine y_ltI ?_ | with_reducible refine y_leI ?_ | with_reducible refine y_gtI ?_ | with_reducible refine y_geI ?_ | with_reducible refine y_eqI ?_ | with_reducible refine y_neI ?_ | with_reducible refine y_eqB ?_ | with_reducible refine y_neB ?_ | with_reducible refine y_eqS ?_ | with_reducible refine y_neS ?_ | with_reducible refine y_isN ?_ | with_reducible refine y_isnN ?_ | with_reducible refine y_wget ?_ | with_reducible refine And.intro (len_ok (by with_unfolding_all exact rfl)) ?_))
    refine y_isT p ?_
    (repeat (first | with_reducible refine w_seq ?_ | with_reducible refine w_set ?_ | with_reducible refine w_expr ?_ | with_reducible refine w_ret ?_ | with_reducible refine w_retN ?_ | with_reducible refine w_store ?_ | with_reducible refine w_nop ?_ | with_reducible refine w_for ?_ | with_reducible refine w_asg ?_ | with_reducible refine w_ct ?_ | with_reducible refine w_brk ?_ | with_reducible refine y_f2 ?_ | with_reducible refine y_C ?_ | with_reducible refine y_var (by with_unfolding_all exact rfl) ?_ | with_reducible refine y_f1 ?_ | with_reducible refine y_B ?_ | with_reducible refine y_unB ?_ | with_reducible refine y_ch ?_ | with_reducible refine y_tru ?_ | with_reducible refine y_tbl ?_ | with_reducible refine y_and ?_ | with_reducible refine y_or ?_ | with_reducible refine y_not ?_ | with_reducible refine y_andV ?_ | with_reducible refine y_notV ?_ | with_reducible refine y_nil ?_ | with_reducible refine y_cons ?_ | with_reducible refine y_tup ?_ | with_reducible refine y_lst ?_ | with_reducible refine y_val ?_ | with_reducible refine y_loc ?_ | with_reducible refine y_dval ?_ | with_reducible refine y_dloc ?_ | with_reducible refine y_ice ?_ | with_reducible refine y_oNone ?_ | with_reducible refine y_oSome ?_ | with_reducible refine y_sl ?_ | with_reducible refine y_A ?_ | with_reducible refine y_call ?_ | with_reducible refine y_M ?_ | with_reducible refine y_aComp ?_ | with_reducible refine y_rng1 ?_ | with_reducible refine y_over ?_ | with_reducible refine y_addI ?_ | with_reducible refine y_subI ?_ | with_reducible refine y_ltI ?_ | with_reducible refine y_leI ?_ | with_reducible refine y_gtI ?_ | with_reducible refine y_geI ?_ | with_reducible refine y_eqI ?_ | with_reducible refine y_neI ?_ | with_reducible refine y_eqB ?_ | with_reducible refine y_neB ?_ | with_reducible refine y_eqS ?_ | with_reducible refine y_neS ?_ | with_reducible refine y_isN ?_ | with_reducible refine y_isnN ?_ | with_reducible refine y_wget ?_ | with_reducible refine And.intro (len_ok (by with_unfolding_all exact rfl)) ?_))
    by_cases ht : ∃ us, u = .tup us
    · obtain ⟨us, rfl⟩ := ht
      refine ite_b (fun c2 => by cases c2) (fun c2 => ?_)
      (repeat (first | with_reducible refine w_seq ?_ | with_reducible refine w_set ?_ | with_reducible refine w_expr ?_ | with_reducible refine w_ret ?_ | with_reducible refine w_retN ?_ | with_reducible refine w_store ?_ | with_reducible refine w_nop ?_ | with_reducible refine w_for ?_ | with_reducible refine w_asg ?_ | with_reducible refine w_ct ?_ | with_reducible refine w_brk ?_ | with_reducible refine y_f2 ?_ | with_reducible refine y_C ?_ | with_reducible refine y_var (by with_unfolding_all exact rfl) ?_ | with_reducible refine y_f1 ?_ | with_reducible refine y_B ?_ | with_reducible refine y_unB ?_ | with_reducible refine y_ch ?_ | with_reducible refine y_tru ?_ | with_reducible refine y_tbl ?_ | with_reducible refine y_and ?_ | with_reducible refine y_or ?_ | with_reducible refine y_not ?_ | with_reducible refine y_andV ?_ | with_reducible refine y_notV ?_ | with_reducible refine y_nil ?_ | with_reducible refine y_cons ?_ | with_reducible refine y_tup ?_ | with_reducible refine y_lst ?_ | with_reducible refine y_val ?_ | with_reducible refine y_loc ?_ | with_reducible refine y_dval ?_ | with_reducible refine y_dloc ?_ | with_reducible refine y_ice ?_ | with_reducible refine y_oNone ?_ | with_reducible refine y_oSome ?_ | with_reducible refine y_sl ?_ | with_reducible refine y_A ?_ | with_reducible refine y_call ?_ | with_reducible refine y_M ?_ | with_reducible refine y_aComp ?_ | with_reducible refine y_rng1 ?_ | with_reducible refine y_over ?_ | with_reducible refine y_addI ?_ | with_reducible refine y_subI ?_ | with_reducible refine y_ltI ?_ | with_reducible refine y_leI ?_ | with_reducible refine y_gtI ?_ | with_reducible refine y_geI ?_ | with_reducible refine y_eqI ?_ | with_reducible refine y_neI ?_ | with_reducible refine y_eqB ?_ | with_reducible refine y_neB ?_ | with_reducible refine y_eqS ?_ | with_reducible refine y_neS ?_ | with_reducible refine y_isN ?_ | with_reducible refine y_isnN ?_ | with_reducible refine y_wget ?_ | with_reducible refine And.intro (len_ok (by with_unfolding_all exact rfl)) ?_))
      refine y_lenT ?_
      (repeat (first | with_reducible refine w_seq ?_ | with_reducible refine w_set ?_ | with_reducible refine w_expr ?_ | with_reducible refine w_ret ?_ | with_reducible refine w_retN ?_ | with_reducible refine w_store ?_ | with_reducible refine w_nop ?_ | with_reducible refine w_for ?_ | with_reducible refine w_asg ?_ | with_reducible refine w_ct ?_ | with_reducible refine w_brk ?_ | with_reducible refine y_f2 ?_ | with_reducible refine y_C ?_ | with_reducible refine y_var (by with_unfolding_all exact rfl) ?_ | with_reducible refine y_f1 ?_ | with_reducible refine y_B ?_ | with_reducible refine y_unB ?_ | with_reducible refine y_ch ?_ | with_reducible refine y_tru ?_ | with_reducible refine y_tbl ?_ | with_reducible refine y_and ?_ | with_reducible refine y_or ?_ | with_reducible refine y_not ?_ | with_reducible refine y_andV ?_ | with_reducible refine y_notV ?_ | with_reducible refine y_nil ?_ | with_reducible refine y_cons ?_ | with_reducible refine y_tup ?_ | with_reducible refine y_lst ?_ | with_reducible refine y_val ?_ | with_reducible refine y_loc ?_ | with_reducible refine y_dval ?_ | with_reducible refine y_dloc ?_ | with_reducible refine y_ice ?_ | with_reducible refine y_oNone ?_ | with_reducible refine y_oSome ?_ | with_reducible refine y_sl ?_ | with_reducible refine y_A ?_ | with_reducible refine y_call ?_ | with_reducible refine y_M ?_ | with_reducible refine y_aComp ?_ | with_reducible refine y_rng1 ?_ | with_reducible refine y_over ?_ | with_reducible refine y_addI ?_ | with_reducible refine y_subI ?_ | with_reducible refine y_ltI ?_ | with_reducible refine y_leI ?_ | with_reducible refine y_gtI ?_ | with_reducible refine y_geI ?_ | with_reducible refine y_eqI ?_ | with_reducible refine y_neI ?_ | with_reducible refine y_eqB ?_ | with_reducible refine y_neB ?_ | with_reducible refine y_eqS ?_ | with_reducible refine y_neS ?_ | with_reducible refine y_isN ?_ | with_reducible refine y_isnN ?_ | with_reducible refine y_wget ?_ | with_reducible refine And.intro (len_ok (by with_unfolding_all exact rfl)) ?_))
      cases us with
      | nil => exact ⟨rfl, fun _ => cnt_bad (fun z us e => by cases e), fun h => by cases h⟩
      | cons v us =>
        refine ite_b (fun c3 => absurd (of_decide_eq_true c3) (by rw [List.length_cons]; omega)) (fun c3 => ?_)
        (repeat (first | with_reducible refine w_seq ?_ | with_reducible refine w_set ?_ | with_reducible refine w_expr ?_ | with_reducible refine w_ret ?_ | with_reducible refine w_retN ?_ | with_reducible refine w_store ?_ | with_reducible refine w_nop ?_ | with_reducible refine w_for ?_ | with_reducible refine w_asg ?_ | with_reducible refine w_ct ?_ | with_reducible refine w_brk ?_ | with_reducible refine y_f2 ?_ | with_reducible refine y_C ?_ | with_reducible refine y_var (by with_unfolding_all exact rfl) ?_ | with_reducible refine y_f1 ?_ | with_reducible refine y_B ?_ | with_reducible refine y_unB ?_ | with_reducible refine y_ch ?_ | with_reducible refine y_tru ?_ | with_reducible refine y_tbl ?_ | with_reducible refine y_and ?_ | with_reducible refine y_or ?_ | with_reducible refine y_not ?_ | with_reducible refine y_andV ?_ | with_reducible refine y_notV ?_ | with_reducible refine y_nil ?_ | with_reducible refine y_cons ?_ | with_reducible refine y_tup ?_ | with_reducible refine y_lst ?_ | with_reducible refine y_val ?_ | with_reducible refine y_loc ?_ | with_reducible refine y_dval ?_ | with_reducible refine y_dloc ?_ | with_reducible refine y_ice ?_ | with_reducible refine y_oNone ?_ | with_reducible refine y_oSome ?_ | with_reducible refine y_sl ?_ | with_reducible refine y_A ?_ | with_reducible refine y_call ?_ | with_reducible refine y_M ?_ | with_reducible refine y_aComp ?_ | with_reducible refine y_rng1 ?_ | with_reducible refine y_over ?_ | with_reducible refine y_addI ?_ | with_reducible refine y_subI ?_ | with_reducible refine y_ltI ?_ | with_reducible refine y_leI ?_ | with_reducible refine y_gtI ?_ | with_reducible refine y_geI ?_ | with_reducible refine y_eqI ?_ | with_reducible refine y_neI ?_ | with_reducible refine y_eqB ?_ | with_reducible refine y_neB ?_ | with_reducible refine y_eqS ?_ | with_reducible refine y_neS ?_ | with_reducible refine y_isN ?_ | with_reducible refine y_isnN ?_ | with_reducible refine y_wget ?_ | with_reducible refine And.intro (len_ok (by with_unfolding_all exact rfl)) ?_))
        refine y_ixT0 ?_
        (repeat (first | with_reducible refine w_seq ?_ | with_reducible refine w_set ?_ | with_reducible refine w_expr ?_ | with_reducible refine w_ret ?_ | with_reducible refine w_retN ?_ | with_reducible refine w_store ?_ | with_reducible refine w_nop ?_ | with_reducible refine w_for ?_ | with_reducible refine w_asg ?_ | with_reducible refine w_ct ?_ | with_reducible refine w_brk ?_ | with_reducible refine y_f2 ?_ | with_reducible refine y_C ?_ | with_reducible refine y_var (by with_unfolding_all exact rfl) ?_ | with_reducible refine y_f1 ?_ | with_reducible refine y_B ?_ | with_reducible refine y_unB ?_ | with_reducible refine y_ch ?_ | with_reducible refine y_tru ?_ | with_reducible refine y_tbl ?_ | with_reducible refine y_and ?_ | with_reducible refine y_or ?_ | with_reducible refine y_not ?_ | with_reducible refine y_andV ?_ | with_reducible refine y_notV ?_ | with_reducible refine y_nil ?_ | with_reducible refine y_cons ?_ | with_reducible refine y_tup ?_ | with_reducible refine y_lst ?_ | with_reducible refine y_val ?_ | with_reducible refine y_loc ?_ | with_reducible refine y_dval ?_ | with_reducible refine y_dloc ?_ | with_reducible refine y_ice ?_ | with_reducible refine y_oNone ?_ | with_reducible refine y_oSome ?_ | with_reducible refine y_sl ?_ | with_reducible refine y_A ?_ | with_reducible refine y_call ?_ | with_reducible refine y_M ?_ | with_reducible refine y_aComp ?_ | with_reducible refine y_rng1 ?_ | with_reducible refine y_over ?_ | with_reducible refine y_addI ?_ | with_reducible refine y_subI ?_ | with_reducible refine y_ltI ?_ | with_reducible refine y_leI ?_ | with_reducible refine y_gtI ?_ | with_reducible refine y_geI ?_ | with_reducible refine y_eqI ?_ | with_reducible refine y_neI ?_ | with_reducible refine y_eqB ?_ | with_reducible refine y_neB ?_ | with_reducible refine y_eqS ?_ | with_reducible refine y_neS ?_ | with_reducible refine y_isN ?_ | with_reducible refine y_isnN ?_ | with_reducible refine y_wget ?_ | with_reducible refine And.intro (len_ok (by with_unfolding_all exact rfl)) ?_))
        obtain ⟨_, m, rfl, pus⟩ := p.tup
        refine y_isS (pus v List.mem_cons_self) ?_
        (repeat (first | with_reducible refine w_seq ?_ | with_reducible refine w_set ?_ | with_reducible refine w_expr ?_ | with_reducible refine w_ret ?_ | with_reducible refine w_retN ?_ | with_reducible refine w_store ?_ | with_reducible refine w_nop ?_ | with_reducible refine w_for ?_ | with_reducible refine w_asg ?_ | with_reducible refine w_ct ?_ | with_reducible refine w_brk ?_ | with_reducible refine y_f2 ?_ | with_reducible refine y_C ?_ | with_reducible refine y_var (by with_unfolding_all exact rfl) ?_ | with_reducible refine y_f1 ?_ | with_reducible refine y_B ?_ | with_reducible refine y_unB ?_ | with_reducible refine y_ch ?_ | with_reducible refine y_tru ?_ | with_reducible refine y_tbl ?_ | with_reducible refine y_and ?_ | with_reducible refine y_or ?_ | with_reducible refine y_not ?_ | with_reducible refine y_andV ?_ | with_reducible refine y_notV ?_ | with_reducible refine y_nil ?_ | with_reducible refine y_cons ?_ | with_reducible refine y_tup ?_ | with_reducible refine y_lst ?_ | with_reducible refine y_val ?_ | with_reducible refine y_loc ?_ | with_reducible refine y_dval ?_ | with_reducible refine y_dloc ?_ | with_reducible refine y_ice ?_ | with_reducible refine y_oNone ?_ | with_reducible refine y_oSome ?_ | with_reducible refine y_sl ?_ | with_reducible refine y_A ?_ | with_reducible refine y_call ?_ | with_reducible refine y_M ?_ | with_reducible refine y_aComp ?_ | with_reducible refine y_rng1 ?_ | with_reducible refine y_over ?_ | with_reducible refine y_addI ?_ | with_reducible refine y_subI ?_ | with_reducible refine y_ltI ?_ | with_reducible refine y_leI ?_ | with_reducible refine y_gtI ?_ | with_reducible refine y_geI ?_ | with_reducible refine y_eqI ?_ | with_reducible refine y_neI ?_ | with_reducible refine y_eqB ?_ | with_reducible refine y_neB ?_ | with_reducible refine y_eqS ?_ | with_reducible refine y_neS ?_ | with_reducible refine y_isN ?_ | with_reducible refine y_isnN ?_ | with_reducible refine y_wget ?_ | with_reducible refine And.intro (len_ok (by with_unfolding_all exact rfl)) ?_))
        cases v with
        | str z => exact ⟨rfl, (fun h => by cases h), fun _ => ⟨z, us, n - 1, rfl, by omega⟩⟩
        | _ => exact ⟨rfl, fun _ => cnt_bad (fun z us e => by cases e), fun h => by cases h⟩
    · have e : isTup u = false := by
        cases u with
        | tup us => exact absurd ⟨us, rfl⟩ ht
        | _ => rfl
      rw [e]
      refine ite_b (fun c2 => ?_) (fun c2 => by cases c2)
      exact ⟨rfl, fun _ => cnt_bad fun z us e => ht ⟨_, e⟩, fun h => by cases h⟩
  · (repeat (first | with_reducible refine w_seq ?_ | with_reducible refine w_set ?_ | with_reducible refine w_expr ?_ | with_reducible refine w_ret ?_ | with_reducible refine w_retN ?_ | with_reducible refine w_store ?_ | with_reducible refine w_nop ?_ | with_reducible refine w_for ?_ | with_reducible refine w_asg ?_ | with_reducible refine w_ct ?_ | with_reducible refine w_brk ?_ | with_reducible refine y_f2 ?_ | with_reducible refine y_C ?_ | with_reducible refine y_var (by with_unfolding_all exact rfl) ?_ | with_reducible refine y_f1 ?_ | with_reducible refine y_B ?_ | with_reducible refine y_unB ?_ | with_reducible refine y_ch ?_ | with_reducible refine y_tru ?_ | with_reducible refine y_tbl ?_ | with_reducible refine y_and ?_ | with_reducible refine y_or ?_ | with_reducible refine y_not ?_ | with_reducible refine y_andV ?_ | with_reducible refine y_notV ?_ | with_reducible refine y_nil ?_ | with_reducible refine y_cons ?_ | with_reducible refine y_tup ?_ | with_reducible refine y_lst ?_ | with_reducible refine y_val ?_ | with_reducible refine y_loc ?_ | with_reducible refine y_dval ?_ | with_reducible refine y_dloc ?_ | with_reducible refine y_ice ?_ | with_reducible refine y_oNone ?_ | with_reducible refine y_oSome ?_ | with_reducible refine y_sl ?_ | with_reducible refine y_A ?_ | with_reducible refine y_call ?_ | with_reducible refine y_M ?_ | with_reducible refine y_aComp ?_ | with_reducible refine y_rng1 ?_ | with_reducible refine y_over ?_ | with_reducible refine y_addI ?_ | with_reducible refine y_subI ?_ | with_reducible refine y_ltI ?_ | with_reducible refine y_leI ?_ | with_reducible refine y_gtI ?_ | with_reducible refine y_geI ?_ | with_reducible refine y_eqI ?_ | with_reducible refine y_neI ?_ | with_reducible refine y_eqB ?_ | with_reducible refine y_neB ?_ | with_reducible refine y_eqS ?_ | with_reducible refine y_neS ?_ | with_reducible refine y_isN ?_ | with_reducible refine y_isnN ?_ | with_reducible refine y_wget ?_ | with_reducible refine And.intro (len_ok (by with_unfolding_all exact rfl)) ?_))
    exact ⟨rfl, _, rfl, rel_401 (h.1 rfl)⟩
  obtain ⟨z, us, n, rfl, rfl⟩ := h.2 rfl
  have hrec := @hrec n rfl
  obtain ⟨hl, m, rfl, pus⟩ := p.tup
  have pz := fun v hv => pus v (List.mem_cons_of_mem _ hv)
  (repeat (first | with_reducible refine w_seq ?_ | with_reducible refine w_set ?_ | with_reducible refine w_expr ?_ | with_reducible refine w_ret ?_ | with_reducible refine w_retN ?_ | with_reducible refine w_store ?_ | with_reducible refine w_nop ?_ | with_reducible refine w_for ?_ | with_reducible refine w_asg ?_ | with_reducible refine w_ct ?_ | with_reducible refine w_brk ?_ | with_reducible refine y_f2 ?_ | with_reducible refine y_C ?_ | with_reducible refine y_var (by with_unfolding_all exact rfl) ?_ | with_reducible refine y_f1 ?_ | with_reducible refine y_B ?_ | with_reducible refine y_unB ?_ | with_reducible refine y_ch ?_ | with_reducible refine y_tru ?_ | with_reducible refine y_tbl ?_ | with_reducible refine y_and ?_ | with_reducible refine y_or ?_ | with_reducible refine y_not ?_ | with_reducible refine y_andV ?_ | with_reducible refine y_notV ?_ | with_reducible refine y_nil ?_ | with_reducible refine y_cons ?_ | with_reducible refine y_tup ?_ | with_reducible refine y_lst ?_ | with_reducible refine y_val ?_ | with_reducible refine y_loc ?_ | with_reducible refine y_dval ?_ | with_reducible refine y_dloc ?_ | with_reducible refine y_ice ?_ | with_reducible refine y_oNone ?_ | with_reducible refine y_oSome ?_ | with_reducible refine y_sl ?_ | with_reducible refine y_A ?_ | with_reducible refine y_call ?_ | with_reducible refine y_M ?_ | with_reducible refine y_aComp ?_ | with_reducible refine y_rng1 ?_ | with_reducible refine y_over ?_ | with_reducible refine y_addI ?_ | with_reducible refine y_subI ?_ | with_reducible refine y_ltI ?_ | with_reducible refine y_leI ?_ | with_reducible refine y_gtI ?_ | with_reducible refine y_geI ?_ | with_reducible refine y_eqI ?_ | with_reducible refine y_neI ?_ | with_reducible refine y_eqB ?_ | with_reducible refine y_neB ?_ | with_reducible refine y_eqS ?_ | with_reducible refine y_neS ?_ | with_reducible refine y_isN ?_ | with_reducible refine y_isnN ?_ | with_reducible refine y_wget ?_ | with_reducible refine And.intro (len_ok (by with_unfolding_all exact rfl)) ?_))
  refine w_if ?_
  (repeat (first | with_reducible refine w_seq ?_ | with_reducible refine w_set ?_ | with_reducible refine w_expr ?_ | with_reducible refine w_ret ?_ | with_reducible refine w_retN ?_ | with_reducible refine w_store ?_ | with_reducible refine w_nop ?_ | with_reducible refine w_for ?_ | with_reducible refine w_asg ?_ | with_reducible refine w_ct ?_ | with_reducible refine w_brk ?_ | with_reducible refine y_f2 ?_ | with_reducible refine y_C ?_ | with_reducible refine y_var (by with_unfolding_all exact rfl) ?_ | with_reducible refine y_f1 ?_ | with_reducible refine y_B ?_ | with_reducible refine y_unB ?_ | with_reducible refine y_ch ?_ | with_reducible refine y_tru ?_ | with_reducible refine y_tbl ?_ | with_reducible refine y_and ?_ | with_reducible refine y_or ?_ | with_reducible refine y_not ?_ | with_reducible refine y_andV ?_ | with_reducible refine y_notV ?_ | with_reducible refine y_nil ?_ | with_reducible refine y_cons ?_ | with_reducible refine y_tup ?_ | with_reducible refine y_lst ?_ | with_reducible refine y_val ?_ | with_reducible refine y_loc ?_ | with_reducible refine y_dval ?_ | with_reducible refine y_dloc ?_ | with_reducible refine y_ice ?_ | with_reducible refine y_oNone ?_ | with_reducible refine y_oSome ?_ | with_reducible refine y_sl ?_ | with_reducible refine y_A ?_ | with_reducible refine y_call ?_ | with_reducible refine y_M ?_ | with_reducible refine y_aComp ?_ | with_reducible refine y_rng1 ?_ | with_reducible refine y_over ?_ | with_reducible refine y_addI ?_ | with_reducible refine y_subI ?_ | with_reducible refine y_ltI ?_ | with_reducible refine y_leI ?_ | with_reducible refine y_gtI ?_ | with_reducible refine y_geI ?_ | with_reducible refine y_eqI ?_ | with_reducible refine y_neI ?_ | with_reducible refine y_eqB ?_ | with_reducible refine y_neB ?_ | with_reducible refine y_eqS ?_ | with_reducible refine y_neS ?_ | with_reducible refine y_isN ?_ | with_reducible refine y_isnN ?_ | with_reducible refine y_wget ?_ | with_reducible refine And.intro (len_ok (by with_unfolding_all exact rfl)) ?_))
  refine y_ixT0 ?_
  (repeat (first | with_reducible refine w_seq ?_ | with_reducible refine w_set ?_ | with_reducible refine w_expr ?_ | with_reducible refine w_ret ?_ | with_reducible refine w_retN ?_ | with_reducible refine w_store ?_ | with_reducible refine w_nop ?_ | with_reducible refine w_for ?_ | with_reducible refine w_asg ?_ | with_reducible refine w_ct ?_ | with_reducible refine w_brk ?_ | with_reducible refine y_f2 ?_ | with_reducible refine y_C ?_ | with_reducible refine y_var (by with_unfolding_all exact rfl) ?_ | with_reducible refine y_f1 ?_ | with_reducible refine y_B ?_ | with_reducible refine y_unB ?_ | with_reducible refine y_ch ?_ | with_reducible refine y_tru ?_ | with_reducible refine y_tbl ?_ | with_reducible refine y_and ?_ | with_reducible refine y_or ?_ | with_reducible refine y_not ?_ | with_reducible refine y_andV ?_ | with_reducible refine y_notV ?_ | with_reducible refine y_nil ?_ | with_reducible refine y_cons ?_ | with_reducible refine y_tup ?_ | with_reducible refine y_lst ?_ | with_reducible refine y_val ?_ | with_reducible refine y_loc ?_ | with_reducible refine y_dval ?_ | with_reducible refine y_dloc ?_ | with_reducible refine y_ice ?_ | with_reducible refine y_oNone ?_ | with_reducible refine y_oSome ?_ | with_reducible refine y_sl ?_ | with_reducible refine y_A ?_ | with_reducible refine y_call ?_ | with_reducible refine y_M ?_ | with_reducible refine y_aComp ?_ | with_reducible refine y_rng1 ?_ | with_reducible refine y_over ?_ | with_reducible refine y_addI ?_ | with_reducible refine y_subI ?_ | with_reducible refine y_ltI ?_ | with_reducible refine y_leI ?_ | with_reducible refine y_gtI ?_ | with_reducible refine y_geI ?_ | with_reducible refine y_eqI ?_ | with_reducible refine y_neI ?_ | with_reducible refine y_eqB ?_ | with_reducible refine y_neB ?_ | with_reducible refine y_eqS ?_ | with_reducible refine y_neS ?_ | with_reducible refine y_isN ?_ | with_reducible refine y_isnN ?_ | with_reducible refine y_wget ?_ | with_reducible refine And.intro (len_ok (by with_unfolding_all exact rfl)) ?_))
  refine ite_b (fun c1 => ?_) (fun c1 => ?_)
  · have c1 := of_decide_eq_true c1
    subst c1
    (repeat (first | with_reducible refine w_seq ?_ | with_reducible refine w_set ?_ | with_reducible refine w_expr ?_ | with_reducible refine w_ret ?_ | with_reducible refine w_retN ?_ | with_reducible refine w_store ?_ | with_reducible refine w_nop ?_ | with_reducible refine w_for ?_ | with_reducible refine w_asg ?_ | with_reducible refine w_ct ?_ | with_reducible refine w_brk ?_ | with_reducible refine y_f2 ?_ | with_reducible refine y_C ?_ | with_reducible refine y_var (by with_unfolding_all exact rfl) ?_ | with_reducible refine y_f1 ?_ | with_reducible refine y_B ?_ | with_reducible refine y_unB ?_ | with_reducible refine y_ch ?_ | with_reducible refine y_tru ?_ | with_reducible refine y_tbl ?_ | with_reducible refine y_and ?_ | with_reducible refine y_or ?_ | with_reducible refine y_not ?_ | with_reducible refine y_andV ?_ | with_reducible refine y_notV ?_ | with_reducible refine y_nil ?_ | with_reducible refine y_cons ?_ | with_reducible refine y_tup ?_ | with_reducible refine y_lst ?_ | with_reducible refine y_val ?_ | with_reducible refine y_loc ?_ | with_reducible refine y_dval ?_ | with_reducible refine y_dloc ?_ | with_reducible refine y_ice ?_ | with_reducible refine y_oNone ?_ | with_reducible refine y_oSome ?_ | with_reducible refine y_sl ?_ | with_reducible refine y_A ?_ | with_reducible refine y_call ?_ | with_reducible refine y_M ?_ | with_reducible refine y_aComp ?_ | with_reducible refine y_rng1 ?_ | with_reducible refine y_over ?_ | with_reducible refine y_addI ?_ | with_reducible refine y_subI ?_ | with_reducible refine y_ltI ?_ | with_reducible refine y_leI ?_ | with_reducible refine y_gtI ?_ | with_reducible refine y_geI ?_ | with_reducible refine y_eqI ?_ | with_reducible refine y_neI ?_ | with_reducible refine y_eqB ?_ | with_reducible refine y_neB ?_ | with_reducible refine y_eqS ?_ | with_reducible refine y_neS ?_ | with_reducible refine y_isN ?_ | with_reducible refine y_isnN ?_ | with_reducible refine y_wget ?_ | with_reducible refine And.intro (len_ok (by with_unfolding_all exact rfl)) ?_))
    refine y_if ?_
    (repeat (first | with_reducible refine w_seq ?_ | with_reducible refine w_set ?_ | with_reducible refine w_expr ?_ | with_reducible refine w_ret ?_ | with_reducible refine w_retN ?_ | with_reducible refine w_store ?_ | with_reducible refine w_nop ?_ | with_reducible refine w_for ?_ | with_reducible refine w_asg ?_ | with_reducible refine w_ct ?_ | with_reducible refine w_brk ?_ | with_reducible refine y_f2 ?_ | with_reducible refine y_C ?_ | with_reducible refine y_var (by with_unfolding_all exact rfl) ?_ | with_reducible refine y_f1 ?_ | with_reducible refine y_B ?_ | with_reducible refine y_unB ?_ | with_reducible refine y_ch ?_ | with_reducible refine y_tru ?_ | with_reducible refine y_tbl ?_ | with_reducible refine y_and ?_ | with_reducible refine y_or ?_ | with_reducible refine y_not ?_ | with_reducible refine y_andV ?_ | with_reducible refine y_notV ?_ | with_reducible refine y_nil ?_ | with_reducible refine y_cons ?_ | with_reducible refine y_tup ?_ | with_reducible refine y_lst ?_ | with_reducible refine y_val ?_ | with_reducible refine y_loc ?_ | with_reducible refine y_dval ?_ | with_reducible refine y_dloc ?_ | with_reducible refine y_ice ?_ | with_reducible refine y_oNone ?_ | with_reducible refine y_oSome ?_ | with_reducible refine y_sl ?_ | with_reducible refine y_A ?_ | with_reducible refine y_call ?_ | with_reducible refine y_M ?_ | with_reducible refine y_aComp ?_ | with_reducible refine y_rng1 ?_ | with_reducible refine y_over ?_ | with_reducible refine y_addI ?_ | with_reducible refine y_subI ?_ | with_reducible refine y_ltI ?_ | with_reducible refine y_leI ?_ | with_reducible refine y_gtI ?_ | with_reducible refine y_geI ?_ | with_reducible refine y_eqI ?_ | with_reducible refine y_neI ?_ | with_reducible refine y_eqB ?_ | with_reducible refine y_neB ?_ | with_reducible refine y_eqS ?_ | with_reducible refine y_neS ?_ | with_reducible refine y_isN ?_ | with_reducible refine y_isnN ?_ | with_reducible refine y_wget ?_ | with_reducible refine And.intro (len_ok (by with_unfolding_all exact rfl)) ?_))
    refine y_lenT ?_
    (repeat (first | with_reducible refine w_seq ?_ | with_reducible refine w_set ?_ | with_reducible refine w_expr ?_ | with_reducible refine w_ret ?_ | with_reducible refine w_retN ?_ | with_reducible refine w_store ?_ | with_reducible refine w_nop ?_ | with_reducible refine w_for ?_ | with_reducible refine w_asg ?_ | with_reducible refine w_ct ?_ | with_reducible refine w_brk ?_ | with_reducible refine y_f2 ?_ | with_reducible refine y_C ?_ | with_reducible refine y_var (by with_unfolding_all exact rfl) ?_ | with_reducible refine y_f1 ?_ | with_reducible refine y_B ?_ | with_reducible refine y_unB ?_ | with_reducible refine y_ch ?_ | with_reducible refine y_tru ?_ | with_reducible refine y_tbl ?_ | with_reducible refine y_and ?_ | with_reducible refine y_or ?_ | with_reducible refine y_not ?_ | with_reducible refine y_andV ?_ | with_reducible refine y_notV ?_ | with_reducible refine y_nil ?_ | with_reducible refine y_cons ?_ | with_reducible refine y_tup ?_ | with_reducible refine y_lst ?_ | with_reducible refine y_val ?_ | with_reducible refine y_loc ?_ | with_reducible refine y_dval ?_ | with_reducible refine y_dloc ?_ | with_reducible refine y_ice ?_ | with_reducible refine y_oNone ?_ | with_reducible refine y_oSome ?_ | with_reducible refine y_sl ?_ | with_reducible refine y_A ?_ | with_reducible refine y_call ?_ | with_reducible refine y_M ?_ | with_reducible refine y_aComp ?_ | with_reducible refine y_rng1 ?_ | with_reducible refine y_over ?_ | with_reducible refine y_addI ?_ | with_reducible refine y_subI ?_ | with_reducible refine y_ltI ?_ | with_reducible refine y_leI ?_ | with_reducible refine y_gtI ?_ | with_reducible refine y_geI ?_ | with_reducible refine y_eqI ?_ | with_reducible refine y_neI ?_ | with_reducible refine y_eqB ?_ | with_reducible refine y_neB ?_ | with_reducible refine y_eqS ?_ | with_reducible refine y_neS ?_ | with_reducible refine y_isN ?_ | with_reducible refine y_isnN ?_ | with_reducible refine y_wget ?_ | with_reducible refine And.intro (len_ok (by with_unfolding_all exact rfl)) ?_))
    refine ite_b (fun c2 => ?_) (fun c2 => ?_)
    · have c2 := of_decide_eq_true c2
      obtain ⟨w, rfl⟩ : ∃ w, us = [w] := by
        cases us with
        | nil => simp at c2
        | cons w r => cases r with
          | nil => exact ⟨w, rfl⟩
          | cons x r => simp at c2; omega
      (repeat (first | with_reducible refine w_seq ?_ | with_reducible refine w_set ?_ | with_reducible refine w_expr ?_ | with_reducible refine w_ret ?_ | with_reducible refine w_retN ?_ | with_reducible refine w_store ?_ | with_reducible refine w_nop ?_ | with_reducible refine w_for ?_ | with_reducible refine w_asg ?_ | with_reducible refine w_ct ?_ | with_reducible refine w_brk ?_ | with_reducible refine y_f2 ?_ | with_reducible refine y_C ?_ | with_reducible refine y_var (by with_unfolding_all exact rfl) ?_ | with_reducible refine y_f1 ?_ | with_reducible refine y_B ?_ | with_reducible refine y_unB ?_ | with_reducible refine y_ch ?_ | with_reducible refine y_tru ?_ | with_reducible refine y_tbl ?_ | with_reducible refine y_and ?_ | with_reducible refine y_or ?_ | with_reducible refine y_not ?_ | with_reducible refine y_andV ?_ | with_reducible refine y_notV ?_ | with_reducible refine y_nil ?_ | with_reducible refine y_cons ?_ | with_reducible refine y_tup ?_ | with_reducible refine y_lst ?_ | with_reducible refine y_val ?_ | with_reducible refine y_loc ?_ | with_reducible refine y_dval ?_ | with_reducible refine y_dloc ?_ | with_reducible refine y_ice ?_ | with_reducible refine y_oNone ?_ | with_reducible refine y_oSome ?_ | with_reducible refine y_sl ?_ | with_reducible refine y_A ?_ | with_reducible refine y_call ?_ | with_reducible refine y_M ?_ | with_reducible refine y_aComp ?_ | with_reducible refine y_rng1 ?_ | with_reducible refine y_over ?_ | with_reducible refine y_addI ?_ | with_reducible refine y_subI ?_ | with_reducible refine y_ltI ?_ | with_reducible refine y_leI ?_ | with_reducible refine y_gtI ?_ | with_reducible refine y_geI ?_ | with_reducible refine y_eqI ?_ | with_reducible refine y_neI ?_ | with_reducible refine y_eqB ?_ | with_reducible refine y_neB ?_ | with_reducible refine y_eqS ?_ | with_reducible refine y_neS ?_ | with_reducible refine y_isN ?_ | with_reducible refine y_isnN ?_ | with_reducible refine y_wget ?_ | with_reducible refine And.intro (len_ok (by with_unfolding_all exact rfl)) ?_))
      refine y_ixT1 ?_
      (repeat (first | with_reducible refine w_seq ?_ | with_reducible refine w_set ?_ | with_reducible refine w_expr ?_ | with_reducible refine w_ret ?_ | with_reducible refine w_retN ?_ | with_reducible refine w_store ?_ | with_reducible refine w_nop ?_ | with_reducible refine w_for ?_ | with_reducible refine w_asg ?_ | with_reducible refine w_ct ?_ | with_reducible refine w_brk ?_ | with_reducible refine y_f2 ?_ | with_reducible refine y_C ?_ | with_reducible refine y_var (by with_unfolding_all exact rfl) ?_ | with_reducible refine y_f1 ?_ | with_reducible refine y_B ?_ | with_reducible refine y_unB ?_ | with_reducible refine y_ch ?_ | with_reducible refine y_tru ?_ | with_reducible refine y_tbl ?_ | with_reducible refine y_and ?_ | with_reducible refine y_or ?_ | with_reducible refine y_not ?_ | with_reducible refine y_andV ?_ | with_reducible refine y_notV ?_ | with_reducible refine y_nil ?_ | with_reducible refine y_cons ?_ | with_reducible refine y_tup ?_ | with_reducible refine y_lst ?_ | with_reducible refine y_val ?_ | with_reducible refine y_loc ?_ | with_reducible refine y_dval ?_ | with_reducible refine y_dloc ?_ | with_reducible refine y_ice ?_ | with_reducible refine y_oNone ?_ | with_reducible refine y_oSome ?_ | with_reducible refine y_sl ?_ | with_reducible refine y_A ?_ | with_reducible refine y_call ?_ | with_reducible refine y_M ?_ | with_reducible refine y_aComp ?_ | with_reducible refine y_rng1 ?_ | with_reducible refine y_over ?_ | with_reducible refine y_addI ?_ | with_reducible refine y_subI ?_ | with_reducible refine y_ltI ?_ | with_reducible refine y_leI ?_ | with_reducible refine y_gtI ?_ | with_reducible refine y_geI ?_ | with_reducible refine y_eqI ?_ | with_reducible refine y_neI ?_ | with_reducible refine y_eqB ?_ | with_reducible refine y_neB ?_ | with_reducible refine y_eqS ?_ | with_reducible refine y_neS ?_ | with_reducible refine y_isN ?_ | with_reducible refine y_isnN ?_ | with_reducible refine y_wget ?_ | with_reducible refine And.intro (len_ok (by with_unfolding_all exact rfl)) ?_))
      refine ⟨rfl, (is_word (pz w List.mem_cons_self)).mono ?_⟩
      rintro _ _ ⟨rfl, rfl⟩
      (repeat (first | with_reducible refine w_seq ?_ | with_reducible refine w_set ?_ | with_reducible refine w_expr ?_ | with_reducible refine w_ret ?_ | with_reducible refine w_retN ?_ | with_reducible refine w_store ?_ | with_reducible refine w_nop ?_ | with_reducible refine w_for ?_ | with_reducible refine w_asg ?_ | with_reducible refine w_ct ?_ | with_reducible refine w_brk ?_ | with_reducible refine y_f2 ?_ | with_reducible refine y_C ?_ | with_reducible refine y_var (by with_unfolding_all exact rfl) ?_ | with_reducible refine y_f1 ?_ | with_reducible refine y_B ?_ | with_reducible refine y_unB ?_ | with_reducible refine y_ch ?_ | with_reducible refine y_tru ?_ | with_reducible refine y_tbl ?_ | with_reducible refine y_and ?_ | with_reducible refine y_or ?_ | with_reducible refine y_not ?_ | with_reducible refine y_andV ?_ | with_reducible refine y_notV ?_ | with_reducible refine y_nil ?_ | with_reducible refine y_cons ?_ | with_reducible refine y_tup ?_ | with_reducible refine y_lst ?_ | with_reducible refine y_val ?_ | with_reducible refine y_loc ?_ | with_reducible refine y_dval ?_ | with_reducible refine y_dloc ?_ | with_reducible refine y_ice ?_ | with_reducible refine y_oNone ?_ | with_reducible refine y_oSome ?_ | with_reducible refine y_sl ?_ | with_reducible refine y_A ?_ | with_reducible refine y_call ?_ | with_reducible refine y_M ?_ | with_reducible refine y_aComp ?_ | with_reducible refine y_rng1 ?_ | with_reducible refine y_over ?_ | with_reducible refine y_addI ?_ | with_reducible refine y_subI ?_ | with_reducible refine y_ltI ?_ | with_reducible refine y_leI ?_ | with_reducible refine y_gtI ?_ | with_reducible refine y_geI ?_ | with_reducible refine y_eqI ?_ | with_reducible refine y_neI ?_ | with_reducible refine y_eqB ?_ | with_reducible refine y_neB ?_ | with_reducible refine y_eqS ?_ | with_reducible refine y_neS ?_ | with_reducible refine y_isN ?_ | with_reducible refine y_isnN ?_ | with_reducible refine y_wget ?_ | with_reducible refine And.intro (len_ok (by with_unfolding_all exact rfl)) ?_))
      refine ite_b (fun c3 => ?_) (fun c3 => ?_)
      · (repeat (first | with_reducible refine w_seq ?_ | with_reducible refine w_set ?_ | with_reducible refine w_expr ?_ | with_reducible refine w_ret ?_ | with_reducible refine w_retN ?_ | with_reducible refine w_store ?_ | with_reducible refine w_nop ?_ | with_reducible refine w_for ?_ | with_reducible refine w_asg ?_ | with_reducible refine w_ct ?_ | with_reducible refine w_brk ?_ | with_reducible refine y_f2 ?_ | with_reducible refine y_C ?_ | with_reducible refine y_var (by with_unfolding_all exact rfl) ?_ | with_reducible refine y_f1 ?_ | with_reducible refine y_B ?_ | with_reducible refine y_unB ?_ | with_reducible refine y_ch ?_ | with_reducible refine y_tru ?_ | with_reducible refine y_tbl ?_ | with_reducible refine y_and ?_ | with_reducible refine y_or ?_ | with_reducible refine y_not ?_ | with_reducible refine y_andV ?_ | with_reducible refine y_notV ?_ | with_reducible refine y_nil ?_ | with_reducible refine y_cons ?_ | with_reducible refine y_tup ?_ | with_reducible refine y_lst ?_ | with_reducible refine y_val ?_ | with_reducible refine y_loc ?_ | with_reducible refine y_dval ?_ | with_reducible refine y_dloc ?_ | with_reducible refine y_ice ?_ | with_reducible refine y_oNone ?_ | with_reducible refine y_oSome ?_ | with_reducible refine y_sl ?_ | with_reducible refine y_A ?_ | with_reducible refine y_call ?_ | with_reducible refine y_M ?_ | with_reducible refine y_aComp ?_ | with_reducible refine y_rng1 ?_ | with_reducible refine y_over ?_ | with_reducible refine y_addI ?_ | with_reducible refine y_subI ?_ | with_reducible refine y_ltI ?_ | with_reducible refine y_leI ?_ | with_reducible refine y_gtI ?_ | with_reducible refine y_geI ?_ | with_reducible refine y_eqI ?_ | with_reducible refine y_neI ?_ | with_reducible refine y_eqB ?_ | with_reducible refine y_neB ?_ | with_reducible refine y_eqS ?_ | with_reducible refine y_neS ?_ | with_reducible refine y_isN ?_ | with_reducible refine y_isnN ?_ | with_reducible refine y_wget ?_ | with_reducible refine And.intro (len_ok (by with_unfolding_all exact rfl)) ?_))
        exact ⟨rfl, _, rfl, .inl ⟨by decide, by rw [cnt_name]; show 1 = if wordB w = true then 1 else 1000; rw [if_pos c3]⟩⟩
      · (repeat (first | with_reducible refine w_seq ?_ | with_reducible refine w_set ?_ | with_reducible refine w_expr ?_ | with_reducible refine w_ret ?_ | with_reducible refine w_retN ?_ | with_reducible refine w_store ?_ | with_reducible refine w_nop ?_ | with_reducible refine w_for ?_ | with_reducible refine w_asg ?_ | with_reducible refine w_ct ?_ | with_reducible refine w_brk ?_ | with_reducible refine y_f2 ?_ | with_reducible refine y_C ?_ | with_reducible refine y_var (by with_unfolding_all exact rfl) ?_ | with_reducible refine y_f1 ?_ | with_reducible refine y_B ?_ | with_reducible refine y_unB ?_ | with_reducible refine y_ch ?_ | with_reducible refine y_tru ?_ | with_reducible refine y_tbl ?_ | with_reducible refine y_and ?_ | with_reducible refine y_or ?_ | with_reducible refine y_not ?_ | with_reducible refine y_andV ?_ | with_reducible refine y_notV ?_ | with_reducible refine y_nil ?_ | with_reducible refine y_cons ?_ | with_reducible refine y_tup ?_ | with_reducible refine y_lst ?_ | with_reducible refine y_val ?_ | with_reducible refine y_loc ?_ | with_reducible refine y_dval ?_ | with_reducible refine y_dloc ?_ | with_reducible refine y_ice ?_ | with_reducible refine y_oNone ?_ | with_reducible refine y_oSome ?_ | with_reducible refine y_sl ?_ | with_reducible refine y_A ?_ | with_reducible refine y_call ?_ | with_reducible refine y_M ?_ | with_reducible refine y_aComp ?_ | with_reducible refine y_rng1 ?_ | with_reducible refine y_over ?_ | with_reducible refine y_addI ?_ | with_reducible refine y_subI ?_ | with_reducible refine y_ltI ?_ | with_reducible refine y_leI ?_ | with_reducible refine y_gtI ?_ | with_reducible refine y_geI ?_ | with_reducible refine y_eqI ?_ | with_reducible refine y_neI ?_ | with_reducible refine y_eqB ?_ | with_reducible refine y_neB ?_ | with_reducible refine y_eqS ?_ | with_reducible refine y_neS ?_ | with_reducible refine y_isN ?_ | with_reducible refine y_isnN ?_ | with_reducible refine y_wget ?_ | with_reducible refine And.intro (len_ok (by with_unfolding_all exact rfl)) ?_))
        exact ⟨rfl, _, rfl, rel_401 (by rw [cnt_name]; show (if wordB w = true then 1 else 1000) = 1000; rw [c3]; rfl)⟩
    · have c2 := of_decide_eq_false c2
      (repeat (first | with_reducible refine w_seq ?_ | with_reducible refine w_set ?_ | with_reducible refine w_expr ?_ | with_reducible refine w_ret ?_ | with_reducible refine w_retN ?_ | with_reducible refine w_store ?_ | with_reducible refine w_nop ?_ | with_reducible refine w_for ?_ | with_reducible refine w_asg ?_ | with_reducible refine w_ct ?_ | with_reducible refine w_brk ?_ | with_reducible refine y_f2 ?_ | with_reducible refine y_C ?_ | with_reducible refine y_var (by with_unfolding_all exact rfl) ?_ | with_reducible refine y_f1 ?_ | with_reducible refine y_B ?_ | with_reducible refine y_unB ?_ | with_reducible refine y_ch ?_ | with_reducible refine y_tru ?_ | with_reducible refine y_tbl ?_ | with_reducible refine y_and ?_ | with_reducible refine y_or ?_ | with_reducible refine y_not ?_ | with_reducible refine y_andV ?_ | with_reducible refine y_notV ?_ | with_reducible refine y_nil ?_ | with_reducible refine y_cons ?_ | with_reducible refine y_tup ?_ | with_reducible refine y_lst ?_ | with_reducible refine y_val ?_ | with_reducible refine y_loc ?_ | with_reducible refine y_dval ?_ | with_reducible refine y_dloc ?_ | with_reducible refine y_ice ?_ | with_reducible refine y_oNone ?_ | with_reducible refine y_oSome ?_ | with_reducible refine y_sl ?_ | with_reducible refine y_A ?_ | with_reducible refine y_call ?_ | with_reducible refine y_M ?_ | with_reducible refine y_aComp ?_ | with_reducible refine y_rng1 ?_ | with_reducible refine y_over ?_ | with_reducible refine y_addI ?_ | with_reducible refine y_subI ?_ | with_reducible refine y_ltI ?_ | with_reducible refine y_leI ?_ | with_reducible refine y_gtI ?_ | with_reducible refine y_geI ?_ | with_reducible refine y_eqI ?_ | with_reducible refine y_neI ?_ | with_reducible refine y_eqB ?_ | with_reducible refine y_neB ?_ | with_reducible refine y_eqS ?_ | with_reducible refine y_neS ?_ | with_reducible refine y_isN ?_ | with_reducible refine y_isnN ?_ | with_reducible refine y_wget ?_ | with_reducible refine And.intro (len_ok (by with_unfolding_all exact rfl)) ?_))
      refine ⟨rfl, _, rfl, rel_401 ?_⟩
      rw [cnt_name]
      exact name_bad fun e => c2 (by rw [List.length_cons, e]; rfl)
  have c1 := of_decide_eq_false c1
  (repeat (first | with_reducible refine w_seq ?_ | with_reducible refine w_set ?_ | with_reducible refine w_expr ?_ | with_reducible refine w_ret ?_ | with_reducible refine w_retN ?_ | with_reducible refine w_store ?_ | with_reducible refine w_nop ?_ | with_reducible refine w_for ?_ | with_reducible refine w_asg ?_ | with_reducible refine w_ct ?_ | with_reducible refine w_brk ?_ | with_reducible refine y_f2 ?_ | with_reducible refine y_C ?_ | with_reducible refine y_var (by with_unfolding_all exact rfl) ?_ | with_reducible refine y_f1 ?_ | with_reducible refine y_B ?_ | with_reducible refine y_unB ?_ | with_reducible refine y_ch ?_ | with_reducible refine y_tru ?_ | with_reducible refine y_tbl ?_ | with_reducible refine y_and ?_ | with_reducible refine y_or ?_ | with_reducible refine y_not ?_ | with_reducible refine y_andV ?_ | with_reducible refine y_notV ?_ | with_reducible refine y_nil ?_ | with_reducible refine y_cons ?_ | with_reducible refine y_tup ?_ | with_reducible refine y_lst ?_ | with_reducible refine y_val ?_ | with_reducible refine y_loc ?_ | with_reducible refine y_dval ?_ | with_reducible refine y_dloc ?_ | with_reducible refine y_ice ?_ | with_reducible refine y_oNone ?_ | with_reducible refine y_oSome ?_ | with_reducible refine y_sl ?_ | with_reducible refine y_A ?_ | with_reducible refine y_call ?_ | with_reducible refine y_M ?_ | with_reducible refine y_aComp ?_ | with_reducible refine y_rng1 ?_ | with_reducible refine y_over ?_ | with_reducible refine y_addI ?_ | with_reducible refine y_subI ?_ | with_reducible refine y_ltI ?_ | with_reducible refine y_leI ?_ | with_reducible refine y_gtI ?_ | with_reducible refine y_geI ?_ | with_reducible refine y_eqI ?_ | with_reducible refine y_neI ?_ | with_reducible refine y_eqB ?_ | with_reducible refine y_neB ?_ | with_reducible refine y_eqS ?_ | with_reducible refine y_neS ?_ | with_reducible refine y_isN ?_ | with_reducible refine y_isnN ?_ | with_reducible refine y_wget ?_ | with_reducible refine And.intro (len_ok (by with_unfolding_all exact rfl)) ?_))
  refine y_ixT0 ?_
  refine ⟨z, rfl, ?_⟩
  rw [look_many]
  cases ha : arity z with
  | none =>
    rw [show (Option.map (fun m : Nat => U.int (m : Int)) none).getD .non = .non from rfl]
    (repeat (first | with_reducible refine w_seq ?_ | with_reducible refine w_set ?_ | with_reducible refine w_expr ?_ | with_reducible refine w_ret ?_ | with_reducible refine w_retN ?_ | with_reducible refine w_store ?_ | with_reducible refine w_nop ?_ | with_reducible refine w_for ?_ | with_reducible refine w_asg ?_ | with_reducible refine w_ct ?_ | with_reducible refine w_brk ?_ | with_reducible refine y_f2 ?_ | with_reducible refine y_C ?_ | with_reducible refine y_var (by with_unfolding_all exact rfl) ?_ | with_reducible refine y_f1 ?_ | with_reducible refine y_B ?_ | with_reducible refine y_unB ?_ | with_reducible refine y_ch ?_ | with_reducible refine y_tru ?_ | with_reducible refine y_tbl ?_ | with_reducible refine y_and ?_ | with_reducible refine y_or ?_ | with_reducible refine y_not ?_ | with_reducible refine y_andV ?_ | with_reducible refine y_notV ?_ | with_reducible refine y_nil ?_ | with_reducible refine y_cons ?_ | with_reducible refine y_tup ?_ | with_reducible refine y_lst ?_ | with_reducible refine y_val ?_ | with_reducible refine y_loc ?_ | with_reducible refine y_dval ?_ | with_reducible refine y_dloc ?_ | with_reducible refine y_ice ?_ | with_reducible refine y_oNone ?_ | with_reducible refine y_oSome ?_ | with_reducible refine y_sl ?_ | with_reducible refine y_A ?_ | with_reducible refine y_call ?_ | with_reducible refine y_M ?_ | with_reducible refine y_aComp ?_ | with_reducible refine y_rng1 ?_ | with_reducible refine y_over ?_ | with_reducible refine y_addI ?_ | with_reducible refine y_subI ?_ | with_reducible refine y_ltI ?_ | with_reducible refine y_leI ?_ | with_reducible refine y_gtI ?_ | with_reducible refine y_geI ?_ | with_reducible refine y_eqI ?_ | with_reducible refine y_neI ?_ | with_reducible refine y_eqB ?_ | with_reducible refine y_neB ?_ | with_reducible refine y_eqS ?_ | with_reducible refine y_neS ?_ | with_reducible refine y_isN ?_ | with_reducible refine y_isnN ?_ | with_reducible refine y_wget ?_ | with_reducible refine And.intro (len_ok (by with_unfolding_all exact rfl)) ?_))
    refine w_ifP (fun b => b = true) ?_ (fun h => ?_) (fun h => by cases h)
    · (repeat (first | with_reducible refine w_seq ?_ | with_reducible refine w_set ?_ | with_reducible refine w_expr ?_ | with_reducible refine w_ret ?_ | with_reducible refine w_retN ?_ | with_reducible refine w_store ?_ | with_reducible refine w_nop ?_ | with_reducible refine w_for ?_ | with_reducible refine w_asg ?_ | with_reducible refine w_ct ?_ | with_reducible refine w_brk ?_ | with_reducible refine y_f2 ?_ | with_reducible refine y_C ?_ | with_reducible refine y_var (by with_unfolding_all exact rfl) ?_ | with_reducible refine y_f1 ?_ | with_reducible refine y_B ?_ | with_reducible refine y_unB ?_ | with_reducible refine y_ch ?_ | with_reducible refine y_tru ?_ | with_reducible refine y_tbl ?_ | with_reducible refine y_and ?_ | with_reducible refine y_or ?_ | with_reducible refine y_not ?_ | with_reducible refine y_andV ?_ | with_reducible refine y_notV ?_ | with_reducible refine y_nil ?_ | with_reducible refine y_cons ?_ | with_reducible refine y_tup ?_ | with_reducible refine y_lst ?_ | with_reducible refine y_val ?_ | with_reducible refine y_loc ?_ | with_reducible refine y_dval ?_ | with_reducible refine y_dloc ?_ | with_reducible refine y_ice ?_ | with_reducible refine y_oNone ?_ | with_reducible refine y_oSome ?_ | with_reducible refine y_sl ?_ | with_reducible refine y_A ?_ | with_reducible refine y_call ?_ | with_reducible refine y_M ?_ | with_reducible refine y_aComp ?_ | with_reducible refine y_rng1 ?_ | with_reducible refine y_over ?_ | with_reducible refine y_addI ?_ | with_reducible refine y_subI ?_ | with_reducible refine y_ltI ?_ | with_reducible refine y_leI ?_ | with_reducible refine y_gtI ?_ | with_reducible refine y_geI ?_ | with_reducible refine y_eqI ?_ | with_reducible refine y_neI ?_ | with_reducible refine y_eqB ?_ | with_reducible refine y_neB ?_ | with_reducible refine y_eqS ?_ | with_reducible refine y_neS ?_ | with_reducible refine y_isN ?_ | with_reducible refine y_isnN ?_ | with_reducible refine y_wget ?_ | with_reducible refine And.intro (len_ok (by with_unfolding_all exact rfl)) ?_))
      exact ⟨rfl, rfl⟩
    (repeat (first | with_reducible refine w_seq ?_ | with_reducible refine w_set ?_ | with_reducible refine w_expr ?_ | with_reducible refine w_ret ?_ | with_reducible refine w_retN ?_ | with_reducible refine w_store ?_ | with_reducible refine w_nop ?_ | with_reducible refine w_for ?_ | with_reducible refine w_asg ?_ | with_reducible refine w_ct ?_ | with_reducible refine w_brk ?_ | with_reducible refine y_f2 ?_ | with_reducible refine y_C ?_ | with_reducible refine y_var (by with_unfolding_all exact rfl) ?_ | with_reducible refine y_f1 ?_ | with_reducible refine y_B ?_ | with_reducible refine y_unB ?_ | with_reducible refine y_ch ?_ | with_reducible refine y_tru ?_ | with_reducible refine y_tbl ?_ | with_reducible refine y_and ?_ | with_reducible refine y_or ?_ | with_reducible refine y_not ?_ | with_reducible refine y_andV ?_ | with_reducible refine y_notV ?_ | with_reducible refine y_nil ?_ | with_reducible refine y_cons ?_ | with_reducible refine y_tup ?_ | with_reducible refine y_lst ?_ | with_reducible refine y_val ?_ | with_reducible refine y_loc ?_ | with_reducible refine y_dval ?_ | with_reducible refine y_dloc ?_ | with_reducible refine y_ice ?_ | with_reducible refine y_oNone ?_ | with_reducible refine y_oSome ?_ | with_reducible refine y_sl ?_ | with_reducible refine y_A ?_ | with_reducible refine y_call ?_ | with_reducible refine y_M ?_ | with_reducible refine y_aComp ?_ | with_reducible refine y_rng1 ?_ | with_reducible refine y_over ?_ | with_reducible refine y_addI ?_ | with_reducible refine y_subI ?_ | with_reducible refine y_ltI ?_ | with_reducible refine y_leI ?_ | with_reducible refine y_gtI ?_ | with_reducible refine y_geI ?_ | with_reducible refine y_eqI ?_ | with_reducible refine y_neI ?_ | with_reducible refine y_eqB ?_ | with_reducible refine y_neB ?_ | with_reducible refine y_eqS ?_ | with_reducible refine y_neS ?_ | with_reducible refine y_isN ?_ | with_reducible refine y_isnN ?_ | with_reducible refine y_wget ?_ | with_reducible refine And.intro (len_ok (by with_unfolding_all exact rfl)) ?_))
    exact ⟨rfl, _, rfl, rel_401 (by rw [cnt_op c1, op_none ha])⟩
  | some q =>
  rw [show (Option.map (fun m : Nat => U.int (m : Int)) (some q)).getD .non = .int (q : Int) from rfl]
  (repeat (first | with_reducible refine w_seq ?_ | with_reducible refine w_set ?_ | with_reducible refine w_expr ?_ | with_reducible refine w_ret ?_ | with_reducible refine w_retN ?_ | with_reducible refine w_store ?_ | with_reducible refine w_nop ?_ | with_reducible refine w_for ?_ | with_reducible refine w_asg ?_ | with_reducible refine w_ct ?_ | with_reducible refine w_brk ?_ | with_reducible refine y_f2 ?_ | with_reducible refine y_C ?_ | with_reducible refine y_var (by with_unfolding_all exact rfl) ?_ | with_reducible refine y_f1 ?_ | with_reducible refine y_B ?_ | with_reducible refine y_unB ?_ | with_reducible refine y_ch ?_ | with_reducible refine y_tru ?_ | with_reducible refine y_tbl ?_ | with_reducible refine y_and ?_ | with_reducible refine y_or ?_ | with_reducible refine y_not ?_ | with_reducible refine y_andV ?_ | with_reducible refine y_notV ?_ | with_reducible refine y_nil ?_ | with_reducible refine y_cons ?_ | with_reducible refine y_tup ?_ | with_reducible refine y_lst ?_ | with_reducible refine y_val ?_ | with_reducible refine y_loc ?_ | with_reducible refine y_dval ?_ | with_reducible refine y_dloc ?_ | with_reducible refine y_ice ?_ | with_reducible refine y_oNone ?_ | with_reducible refine y_oSome ?_ | with_reducible refine y_sl ?_ | with_reducible refine y_A ?_ | with_reducible refine y_call ?_ | with_reducible refine y_M ?_ | with_reducible refine y_aComp ?_ | with_reducible refine y_rng1 ?_ | with_reducible refine y_over ?_ | with_reducible refine y_addI ?_ | with_reducible refine y_subI ?_ | with_reducible refine y_ltI ?_ | with_reducible refine y_leI ?_ | with_reducible refine y_gtI ?_ | with_reducible refine y_geI ?_ | with_reducible refine y_eqI ?_ | with_reducible refine y_neI ?_ | with_reducible refine y_eqB ?_ | with_reducible refine y_neB ?_ | with_reducible refine y_eqS ?_ | with_reducible refine y_neS ?_ | with_reducible refine y_isN ?_ | with_reducible refine y_isnN ?_ | with_reducible refine y_wget ?_ | with_reducible refine And.intro (len_ok (by with_unfolding_all exact rfl)) ?_))
  refine w_ifP (fun b => b = !decide (us.length = q)) ?_ (fun h => ?_) (fun h => ?_)
  · (repeat (first | with_reducible refine w_seq ?_ | with_reducible refine w_set ?_ | with_reducible refine w_expr ?_ | with_reducible refine w_ret ?_ | with_reducible refine w_retN ?_ | with_reducible refine w_store ?_ | with_reducible refine w_nop ?_ | with_reducible refine w_for ?_ | with_reducible refine w_asg ?_ | with_reducible refine w_ct ?_ | with_reducible refine w_brk ?_ | with_reducible refine y_f2 ?_ | with_reducible refine y_C ?_ | with_reducible refine y_var (by with_unfolding_all exact rfl) ?_ | with_reducible refine y_f1 ?_ | with_reducible refine y_B ?_ | with_reducible refine y_unB ?_ | with_reducible refine y_ch ?_ | with_reducible refine y_tru ?_ | with_reducible refine y_tbl ?_ | with_reducible refine y_and ?_ | with_reducible refine y_or ?_ | with_reducible refine y_not ?_ | with_reducible refine y_andV ?_ | with_reducible refine y_notV ?_ | with_reducible refine y_nil ?_ | with_reducible refine y_cons ?_ | with_reducible refine y_tup ?_ | with_reducible refine y_lst ?_ | with_reducible refine y_val ?_ | with_reducible refine y_loc ?_ | with_reducible refine y_dval ?_ | with_reducible refine y_dloc ?_ | with_reducible refine y_ice ?_ | with_reducible refine y_oNone ?_ | with_reducible refine y_oSome ?_ | with_reducible refine y_sl ?_ | with_reducible refine y_A ?_ | with_reducible refine y_call ?_ | with_reducible refine y_M ?_ | with_reducible refine y_aComp ?_ | with_reducible refine y_rng1 ?_ | with_reducible refine y_over ?_ | with_reducible refine y_addI ?_ | with_reducible refine y_subI ?_ | with_reducible refine y_ltI ?_ | with_reducible refine y_leI ?_ | with_reducible refine y_gtI ?_ | with_reducible refine y_geI ?_ | with_reducible refine y_eqI ?_ | with_reducible refine y_neI ?_ | with_reducible refine y_eqB ?_ | with_reducible refine y_neB ?_ | with_reducible refine y_eqS ?_ | with_reducible refine y_neS ?_ | with_reducible refine y_isN ?_ | with_reducible refine y_isnN ?_ | with_reducible refine y_wget ?_ | with_reducible refine And.intro (len_ok (by with_unfolding_all exact rfl)) ?_))
    refine ite_b (fun c => by cases c) (fun _ => ?_)
    (repeat (first | with_reducible refine w_seq ?_ | with_reducible refine w_set ?_ | with_reducible refine w_expr ?_ | with_reducible refine w_ret ?_ | with_reducible refine w_retN ?_ | with_reducible refine w_store ?_ | with_reducible refine w_nop ?_ | with_reducible refine w_for ?_ | with_reducible refine w_asg ?_ | with_reducible refine w_ct ?_ | with_reducible refine w_brk ?_ | with_reducible refine y_f2 ?_ | with_reducible refine y_C ?_ | with_reducible refine y_var (by with_unfolding_all exact rfl) ?_ | with_reducible refine y_f1 ?_ | with_reducible refine y_B ?_ | with_reducible refine y_unB ?_ | with_reducible refine y_ch ?_ | with_reducible refine y_tru ?_ | with_reducible refine y_tbl ?_ | with_reducible refine y_and ?_ | with_reducible refine y_or ?_ | with_reducible refine y_not ?_ | with_reducible refine y_andV ?_ | with_reducible refine y_notV ?_ | with_reducible refine y_nil ?_ | with_reducible refine y_cons ?_ | with_reducible refine y_tup ?_ | with_reducible refine y_lst ?_ | with_reducible refine y_val ?_ | with_reducible refine y_loc ?_ | with_reducible refine y_dval ?_ | with_reducible refine y_dloc ?_ | with_reducible refine y_ice ?_ | with_reducible refine y_oNone ?_ | with_reducible refine y_oSome ?_ | with_reducible refine y_sl ?_ | with_reducible refine y_A ?_ | with_reducible refine y_call ?_ | with_reducible refine y_M ?_ | with_reducible refine y_aComp ?_ | with_reducible refine y_rng1 ?_ | with_reducible refine y_over ?_ | with_reducible refine y_addI ?_ | with_reducible refine y_subI ?_ | with_reducible refine y_ltI ?_ | with_reducible refine y_leI ?_ | with_reducible refine y_gtI ?_ | with_reducible refine y_geI ?_ | with_reducible refine y_eqI ?_ | with_reducible refine y_neI ?_ | with_reducible refine y_eqB ?_ | with_reducible refine y_neB ?_ | with_reducible refine y_eqS ?_ | with_reducible refine y_neS ?_ | with_reducible refine y_isN ?_ | with_reducible refine y_isnN ?_ | with_reducible refine y_wget ?_ | with_reducible refine And.intro (len_ok (by with_unfolding_all exact rfl)) ?_))
    refine y_lenT ?_
    (repeat (first | with_reducible refine w_seq ?_ | with_reducible refine w_set ?_ | with_reducible refine w_expr ?_ | with_reducible refine w_ret ?_ | with_reducible refine w_retN ?_ | with_reducible refine w_store ?_ | with_reducible refine w_nop ?_ | with_reducible refine w_for ?_ | with_reducible refine w_asg ?_ | with_reducible refine w_ct ?_ | with_reducible refine w_brk ?_ | with_reducible refine y_f2 ?_ | with_reducible refine y_C ?_ | with_reducible refine y_var (by with_unfolding_all exact rfl) ?_ | with_reducible refine y_f1 ?_ | with_reducible refine y_B ?_ | with_reducible refine y_unB ?_ | with_reducible refine y_ch ?_ | with_reducible refine y_tru ?_ | with_reducible refine y_tbl ?_ | with_reducible refine y_and ?_ | with_reducible refine y_or ?_ | with_reducible refine y_not ?_ | with_reducible refine y_andV ?_ | with_reducible refine y_notV ?_ | with_reducible refine y_nil ?_ | with_reducible refine y_cons ?_ | with_reducible refine y_tup ?_ | with_reducible refine y_lst ?_ | with_reducible refine y_val ?_ | with_reducible refine y_loc ?_ | with_reducible refine y_dval ?_ | with_reducible refine y_dloc ?_ | with_reducible refine y_ice ?_ | with_reducible refine y_oNone ?_ | with_reducible refine y_oSome ?_ | with_reducible refine y_sl ?_ | with_reducible refine y_A ?_ | with_reducible refine y_call ?_ | with_reducible refine y_M ?_ | with_reducible refine y_aComp ?_ | with_reducible refine y_rng1 ?_ | with_reducible refine y_over ?_ | with_reducible refine y_addI ?_ | with_reducible refine y_subI ?_ | with_reducible refine y_ltI ?_ | with_reducible refine y_leI ?_ | with_reducible refine y_gtI ?_ | with_reducible refine y_geI ?_ | with_reducible refine y_eqI ?_ | with_reducible refine y_neI ?_ | with_reducible refine y_eqB ?_ | with_reducible refine y_neB ?_ | with_reducible refine y_eqS ?_ | with_reducible refine y_neS ?_ | with_reducible refine y_isN ?_ | with_reducible refine y_isnN ?_ | with_reducible refine y_wget ?_ | with_reducible refine And.intro (len_ok (by with_unfolding_all exact rfl)) ?_))
    refine ⟨rfl, ?_⟩
    rw [List.length_cons]
    congr 1
    exact decide_eq_decide.mpr (by omega)
  · (repeat (first | with_reducible refine w_seq ?_ | with_reducible refine w_set ?_ | with_reducible refine w_expr ?_ | with_reducible refine w_ret ?_ | with_reducible refine w_retN ?_ | with_reducible refine w_store ?_ | with_reducible refine w_nop ?_ | with_reducible refine w_for ?_ | with_reducible refine w_asg ?_ | with_reducible refine w_ct ?_ | with_reducible refine w_brk ?_ | with_reducible refine y_f2 ?_ | with_reducible refine y_C ?_ | with_reducible refine y_var (by with_unfolding_all exact rfl) ?_ | with_reducible refine y_f1 ?_ | with_reducible refine y_B ?_ | with_reducible refine y_unB ?_ | with_reducible refine y_ch ?_ | with_reducible refine y_tru ?_ | with_reducible refine y_tbl ?_ | with_reducible refine y_and ?_ | with_reducible refine y_or ?_ | with_reducible refine y_not ?_ | with_reducible refine y_andV ?_ | with_reducible refine y_notV ?_ | with_reducible refine y_nil ?_ | with_reducible refine y_cons ?_ | with_reducible refine y_tup ?_ | with_reducible refine y_lst ?_ | with_reducible refine y_val ?_ | with_reducible refine y_loc ?_ | with_reducible refine y_dval ?_ | with_reducible refine y_dloc ?_ | with_reducible refine y_ice ?_ | with_reducible refine y_oNone ?_ | with_reducible refine y_oSome ?_ | with_reducible refine y_sl ?_ | with_reducible refine y_A ?_ | with_reducible refine y_call ?_ | with_reducible refine y_M ?_ | with_reducible refine y_aComp ?_ | with_reducible refine y_rng1 ?_ | with_reducible refine y_over ?_ | with_reducible refine y_addI ?_ | with_reducible refine y_subI ?_ | with_reducible refine y_ltI ?_ | with_reducible refine y_leI ?_ | with_reducible refine y_gtI ?_ | with_reducible refine y_geI ?_ | with_reducible refine y_eqI ?_ | with_reducible refine y_neI ?_ | with_reducible refine y_eqB ?_ | with_reducible refine y_neB ?_ | with_reducible refine y_eqS ?_ | with_reducible refine y_neS ?_ | with_reducible refine y_isN ?_ | with_reducible refine y_isnN ?_ | with_reducible refine y_wget ?_ | with_reducible refine And.intro (len_ok (by with_unfolding_all exact rfl)) ?_))
    refine ⟨rfl, _, rfl, rel_401 ?_⟩
    rw [cnt_op c1, op_some ha, if_neg]
    intro e
    rw [decide_eq_true e] at h
    cases h
  have hq : us.length = q := by
    cases hd : decide (us.length = q) with
    | true => exact of_decide_eq_true hd
    | false => rw [hd] at h; cases h
  have hcnt : cnt (n + 1) (.tup (.str z :: us)) = 1 + (us.map (cnt n)).sum := by rw [cnt_op c1, op_some ha, if_pos hq]
  (repeat (first | with_reducible refine w_seq ?_ | with_reducible refine w_set ?_ | with_reducible refine w_expr ?_ | with_reducible refine w_ret ?_ | with_reducible refine w_retN ?_ | with_reducible refine w_store ?_ | with_reducible refine w_nop ?_ | with_reducible refine w_for ?_ | with_reducible refine w_asg ?_ | with_reducible refine w_ct ?_ | with_reducible refine w_brk ?_ | with_reducible refine y_f2 ?_ | with_reducible refine y_C ?_ | with_reducible refine y_var (by with_unfolding_all exact rfl) ?_ | with_reducible refine y_f1 ?_ | with_reducible refine y_B ?_ | with_reducible refine y_unB ?_ | with_reducible refine y_ch ?_ | with_reducible refine y_tru ?_ | with_reducible refine y_tbl ?_ | with_reducible refine y_and ?_ | with_reducible refine y_or ?_ | with_reducible refine y_not ?_ | with_reducible refine y_andV ?_ | with_reducible refine y_notV ?_ | with_reducible refine y_nil ?_ | with_reducible refine y_cons ?_ | with_reducible refine y_tup ?_ | with_reducible refine y_lst ?_ | with_reducible refine y_val ?_ | with_reducible refine y_loc ?_ | with_reducible refine y_dval ?_ | with_reducible refine y_dloc ?_ | with_reducible refine y_ice ?_ | with_reducible refine y_oNone ?_ | with_reducible refine y_oSome ?_ | with_reducible refine y_sl ?_ | with_reducible refine y_A ?_ | with_reducible refine y_call ?_ | with_reducible refine y_M ?_ | with_reducible refine y_aComp ?_ | with_reducible refine y_rng1 ?_ | with_reducible refine y_over ?_ | with_reducible refine y_addI ?_ | with_reducible refine y_subI ?_ | with_reducible refine y_ltI ?_ | with_reducible refine y_leI ?_ | with_reducible refine y_gtI ?_ | with_reducible refine y_geI ?_ | with_reducible refine y_eqI ?_ | with_reducible refine y_neI ?_ | with_reducible refine y_eqB ?_ | with_reducible refine y_neB ?_ | with_reducible refine y_eqS ?_ | with_reducible refine y_neS ?_ | with_reducible refine y_isN ?_ | with_reducible refine y_isnN ?_ | with_reducible refine y_wget ?_ | with_reducible refine And.intro (len_ok (by with_unfolding_all exact rfl)) ?_))
  refine ⟨_, rfl, ?_⟩
  (repeat (first | with_reducible refine w_seq ?_ | with_reducible refine w_set ?_ | with_reducible refine w_expr ?_ | with_reducible refine w_ret ?_ | with_reducible refine w_retN ?_ | with_reducible refine w_store ?_ | with_reducible refine w_nop ?_ | with_reducible refine w_for ?_ | with_reducible refine w_asg ?_ | with_reducible refine w_ct ?_ | with_reducible refine w_brk ?_ | with_reducible refine y_f2 ?_ | with_reducible refine y_C ?_ | with_reducible refine y_var (by with_unfolding_all exact rfl) ?_ | with_reducible refine y_f1 ?_ | with_reducible refine y_B ?_ | with_reducible refine y_unB ?_ | with_reducible refine y_ch ?_ | with_reducible refine y_tru ?_ | with_reducible refine y_tbl ?_ | with_reducible refine y_and ?_ | with_reducible refine y_or ?_ | with_reducible refine y_not ?_ | with_reducible refine y_andV ?_ | with_reducible refine y_notV ?_ | with_reducible refine y_nil ?_ | with_reducible refine y_cons ?_ | with_reducible refine y_tup ?_ | with_reducible refine y_lst ?_ | with_reducible refine y_val ?_ | with_reducible refine y_loc ?_ | with_reducible refine y_dval ?_ | with_reducible refine y_dloc ?_ | with_reducible refine y_ice ?_ | with_reducible refine y_oNone ?_ | with_reducible refine y_oSome ?_ | with_reducible refine y_sl ?_ | with_reducible refine y_A ?_ | with_reducible refine y_call ?_ | with_reducible refine y_M ?_ | with_reducible refine y_aComp ?_ | with_reducible refine y_rng1 ?_ | with_reducible refine y_over ?_ | with_reducible refine y_addI ?_ | with_reducible refine y_subI ?_ | with_reducible refine y_ltI ?_ | with_reducible refine y_leI ?_ | with_reducible refine y_gtI ?_ | with_reducible refine y_geI ?_ | with_reducible refine y_eqI ?_ | with_reducible refine y_neI ?_ | with_reducible refine y_eqB ?_ | with_reducible refine y_neB ?_ | with_reducible refine y_eqS ?_ | with_reducible refine y_neS ?_ | with_reducible refine y_isN ?_ | with_reducible refine y_isnN ?_ | with_reducible refine y_wget ?_ | with_reducible refine And.intro (len_ok (by with_unfolding_all exact rfl)) ?_))
  refine y_slT ?_
  rw [sl1]
  refine ⟨us, rfl, ?_⟩
  refine w_loop (fun rest d S' => S' = S ∧ ∃ (f : Int) (pre : List U) (x4 : Option U), d = [some (.tup (.str z :: us)), some (.int (26 - ((n + 1 : Nat) : Int))), some (.int (q : Int)), some (.int f), x4] ∧ us = pre ++ rest ∧ f = 1 + (pre.map (cnt n)).sum ∧ (f ≤ 400)) ?_ ?_ _ _ _ ⟨rfl, 1, [], _, rfl, rfl, by simp, by decide⟩
  · rintro v rest _ _ ⟨rfl, f, pre, x4, rfl, hus, hf, hf4⟩
    refine ⟨_, rfl, ?_⟩
    (repeat (first | with_reducible refine w_seq ?_ | with_reducible refine w_set ?_ | with_reducible refine w_expr ?_ | with_reducible refine w_ret ?_ | with_reducible refine w_retN ?_ | with_reducible refine w_store ?_ | with_reducible refine w_nop ?_ | with_reducible refine w_for ?_ | with_reducible refine w_asg ?_ | with_reducible refine w_ct ?_ | with_reducible refine w_brk ?_ | with_reducible refine y_f2 ?_ | with_reducible refine y_C ?_ | with_reducible refine y_var (by with_unfolding_all exact rfl) ?_ | with_reducible refine y_f1 ?_ | with_reducible refine y_B ?_ | with_reducible refine y_unB ?_ | with_reducible refine y_ch ?_ | with_reducible refine y_tru ?_ | with_reducible refine y_tbl ?_ | with_reducible refine y_and ?_ | with_reducible refine y_or ?_ | with_reducible refine y_not ?_ | with_reducible refine y_andV ?_ | with_reducible refine y_notV ?_ | with_reducible refine y_nil ?_ | with_reducible refine y_cons ?_ | with_reducible refine y_tup ?_ | with_reducible refine y_lst ?_ | with_reducible refine y_val ?_ | with_reducible refine y_loc ?_ | with_reducible refine y_dval ?_ | with_reducible refine y_dloc ?_ | with_reducible refine y_ice ?_ | with_reducible refine y_oNone ?_ | with_reducible refine y_oSome ?_ | with_reducible refine y_sl ?_ | with_reducible refine y_A ?_ | with_reducible refine y_call ?_ | with_reducible refine y_M ?_ | with_reducible refine y_aComp ?_ | with_reducible refine y_rng1 ?_ | with_reducible refine y_over ?_ | with_reducible refine y_addI ?_ | with_reducible refine y_subI ?_ | with_reducible refine y_ltI ?_ | with_reducible refine y_leI ?_ | with_reducible refine y_gtI ?_ | with_reducible refine y_geI ?_ | with_reducible refine y_eqI ?_ | with_reducible refine y_neI ?_ | with_reducible refine y_eqB ?_ | with_reducible refine y_neB ?_ | with_reducible refine y_eqS ?_ | with_reducible refine y_neS ?_ | with_reducible refine y_isN ?_ | with_reducible refine y_isnN ?_ | with_reducible refine y_wget ?_ | with_reducible refine And.intro (len_ok (by with_unfolding_all exact rfl)) ?_))
    refine ⟨rfl, ?_⟩
    rw [show (26 - ((n + 1 : Nat) : Int)) + 1 = 26 - (n : Int) by omega]
    refine (hrec (pz v (by rw [hus]; simp))).mono ?_
    rintro _ _ ⟨rfl, i, rfl, hr⟩
    (repeat (first | with_reducible refine w_seq ?_ | with_reducible refine w_set ?_ | with_reducible refine w_expr ?_ | with_reducible refine w_ret ?_ | with_reducible refine w_retN ?_ | with_reducible refine w_store ?_ | with_reducible refine w_nop ?_ | with_reducible refine w_for ?_ | with_reducible refine w_asg ?_ | with_reducible refine w_ct ?_ | with_reducible refine w_brk ?_ | with_reducible refine y_f2 ?_ | with_reducible refine y_C ?_ | with_reducible refine y_var (by with_unfolding_all exact rfl) ?_ | with_reducible refine y_f1 ?_ | with_reducible refine y_B ?_ | with_reducible refine y_unB ?_ | with_reducible refine y_ch ?_ | with_reducible refine y_tru ?_ | with_reducible refine y_tbl ?_ | with_reducible refine y_and ?_ | with_reducible refine y_or ?_ | with_reducible refine y_not ?_ | with_reducible refine y_andV ?_ | with_reducible refine y_notV ?_ | with_reducible refine y_nil ?_ | with_reducible refine y_cons ?_ | with_reducible refine y_tup ?_ | with_reducible refine y_lst ?_ | with_reducible refine y_val ?_ | with_reducible refine y_loc ?_ | with_reducible refine y_dval ?_ | with_reducible refine y_dloc ?_ | with_reducible refine y_ice ?_ | with_reducible refine y_oNone ?_ | with_reducible refine y_oSome ?_ | with_reducible refine y_sl ?_ | with_reducible refine y_A ?_ | with_reducible refine y_call ?_ | with_reducible refine y_M ?_ | with_reducible refine y_aComp ?_ | with_reducible refine y_rng1 ?_ | with_reducible refine y_over ?_ | with_reducible refine y_addI ?_ | with_reducible refine y_subI ?_ | with_reducible refine y_ltI ?_ | with_reducible refine y_leI ?_ | with_reducible refine y_gtI ?_ | with_reducible refine y_geI ?_ | with_reducible refine y_eqI ?_ | with_reducible refine y_neI ?_ | with_reducible refine y_eqB ?_ | with_reducible refine y_neB ?_ | with_reducible refine y_eqS ?_ | with_reducible refine y_neS ?_ | with_reducible refine y_isN ?_ | with_reducible refine y_isnN ?_ | with_reducible refine y_wget ?_ | with_reducible refine And.intro (len_ok (by with_unfolding_all exact rfl)) ?_))
    have hsum : (us.map (cnt n)).sum = (pre.map (cnt n)).sum + (cnt n v + (rest.map (cnt n)).sum) := by
      rw [hus, List.map_append, List.sum_append, List.map_cons, List.sum_cons]
    have h1 := sum_pos n rest
    have h2 := cnt_pos n v
    refine w_if ?_
    (repeat (first | with_reducible refine w_seq ?_ | with_reducible refine w_set ?_ | with_reducible refine w_expr ?_ | with_reducible refine w_ret ?_ | with_reducible refine w_retN ?_ | with_reducible refine w_store ?_ | with_reducible refine w_nop ?_ | with_reducible refine w_for ?_ | with_reducible refine w_asg ?_ | with_reducible refine w_ct ?_ | with_reducible refine w_brk ?_ | with_reducible refine y_f2 ?_ | with_reducible refine y_C ?_ | with_reducible refine y_var (by with_unfolding_all exact rfl) ?_ | with_reducible refine y_f1 ?_ | with_reducible refine y_B ?_ | with_reducible refine y_unB ?_ | with_reducible refine y_ch ?_ | with_reducible refine y_tru ?_ | with_reducible refine y_tbl ?_ | with_reducible refine y_and ?_ | with_reducible refine y_or ?_ | with_reducible refine y_not ?_ | with_reducible refine y_andV ?_ | with_reducible refine y_notV ?_ | with_reducible refine y_nil ?_ | with_reducible refine y_cons ?_ | with_reducible refine y_tup ?_ | with_reducible refine y_lst ?_ | with_reducible refine y_val ?_ | with_reducible refine y_loc ?_ | with_reducible refine y_dval ?_ | with_reducible refine y_dloc ?_ | with_reducible refine y_ice ?_ | with_reducible refine y_oNone ?_ | with_reducible refine y_oSome ?_ | with_reducible refine y_sl ?_ | with_reducible refine y_A ?_ | with_reducible refine y_call ?_ | with_reducible refine y_M ?_ | with_reducible refine y_aComp ?_ | with_reducible refine y_rng1 ?_ | with_reducible refine y_over ?_ | with_reducible refine y_addI ?_ | with_reducible refine y_subI ?_ | with_reducible refine y_ltI ?_ | with_reducible refine y_leI ?_ | with_reducible refine y_gtI ?_ | with_reducible refine y_geI ?_ | with_reducible refine y_eqI ?_ | with_reducible refine y_neI ?_ | with_reducible refine y_eqB ?_ | with_reducible refine y_neB ?_ | with_reducible refine y_eqS ?_ | with_reducible refine y_neS ?_ | with_reducible refine y_isN ?_ | with_reducible refine y_isnN ?_ | with_reducible refine y_wget ?_ | with_reducible refine And.intro (len_ok (by with_unfolding_all exact rfl)) ?_))
    refine ite_b (fun c2 => ?_) (fun c2 => ?_)
    · have c2 := of_decide_eq_true c2
      (repeat (first | with_reducible refine w_seq ?_ | with_reducible refine w_set ?_ | with_reducible refine w_expr ?_ | with_reducible refine w_ret ?_ | with_reducible refine w_retN ?_ | with_reducible refine w_store ?_ | with_reducible refine w_nop ?_ | with_reducible refine w_for ?_ | with_reducible refine w_asg ?_ | with_reducible refine w_ct ?_ | with_reducible refine w_brk ?_ | with_reducible refine y_f2 ?_ | with_reducible refine y_C ?_ | with_reducible refine y_var (by with_unfolding_all exact rfl) ?_ | with_reducible refine y_f1 ?_ | with_reducible refine y_B ?_ | with_reducible refine y_unB ?_ | with_reducible refine y_ch ?_ | with_reducible refine y_tru ?_ | with_reducible refine y_tbl ?_ | with_reducible refine y_and ?_ | with_reducible refine y_or ?_ | with_reducible refine y_not ?_ | with_reducible refine y_andV ?_ | with_reducible refine y_notV ?_ | with_reducible refine y_nil ?_ | with_reducible refine y_cons ?_ | with_reducible refine y_tup ?_ | with_reducible refine y_lst ?_ | with_reducible refine y_val ?_ | with_reducible refine y_loc ?_ | with_reducible refine y_dval ?_ | with_reducible refine y_dloc ?_ | with_reducible refine y_ice ?_ | with_reducible refine y_oNone ?_ | with_reducible refine y_oSome ?_ | with_reducible refine y_sl ?_ | with_reducible refine y_A ?_ | with_reducible refine y_call ?_ | with_reducible refine y_M ?_ | with_reducible refine y_aComp ?_ | with_reducible refine y_rng1 ?_ | with_reducible refine y_over ?_ | with_reducible refine y_addI ?_ | with_reducible refine y_subI ?_ | with_reducible refine y_ltI ?_ | with_reducible refine y_leI ?_ | with_reducible refine y_gtI ?_ | with_reducible refine y_geI ?_ | with_reducible refine y_eqI ?_ | with_reducible refine y_neI ?_ | with_reducible refine y_eqB ?_ | with_reducible refine y_neB ?_ | with_reducible refine y_eqS ?_ | with_reducible refine y_neS ?_ | with_reducible refine y_isN ?_ | with_reducible refine y_isnN ?_ | with_reducible refine y_wget ?_ | with_reducible refine And.intro (len_ok (by with_unfolding_all exact rfl)) ?_))
      refine ⟨rfl, _, rfl, .inr ⟨c2, ?_⟩⟩
      rw [hcnt, hsum]
      have h3 := sum_pos n pre
      rcases hr with ⟨r1, r2⟩ | ⟨r1, r2⟩ <;> omega
    · have c2 := of_decide_eq_false c2
      (repeat (first | with_reducible refine w_seq ?_ | with_reducible refine w_set ?_ | with_reducible refine w_expr ?_ | with_reducible refine w_ret ?_ | with_reducible refine w_retN ?_ | with_reducible refine w_store ?_ | with_reducible refine w_nop ?_ | with_reducible refine w_for ?_ | with_reducible refine w_asg ?_ | with_reducible refine w_ct ?_ | with_reducible refine w_brk ?_ | with_reducible refine y_f2 ?_ | with_reducible refine y_C ?_ | with_reducible refine y_var (by with_unfolding_all exact rfl) ?_ | with_reducible refine y_f1 ?_ | with_reducible refine y_B ?_ | with_reducible refine y_unB ?_ | with_reducible refine y_ch ?_ | with_reducible refine y_tru ?_ | with_reducible refine y_tbl ?_ | with_reducible refine y_and ?_ | with_reducible refine y_or ?_ | with_reducible refine y_not ?_ | with_reducible refine y_andV ?_ | with_reducible refine y_notV ?_ | with_reducible refine y_nil ?_ | with_reducible refine y_cons ?_ | with_reducible refine y_tup ?_ | with_reducible refine y_lst ?_ | with_reducible refine y_val ?_ | with_reducible refine y_loc ?_ | with_reducible refine y_dval ?_ | with_reducible refine y_dloc ?_ | with_reducible refine y_ice ?_ | with_reducible refine y_oNone ?_ | with_reducible refine y_oSome ?_ | with_reducible refine y_sl ?_ | with_reducible refine y_A ?_ | with_reducible refine y_call ?_ | with_reducible refine y_M ?_ | with_reducible refine y_aComp ?_ | with_reducible refine y_rng1 ?_ | with_reducible refine y_over ?_ | with_reducible refine y_addI ?_ | with_reducible refine y_subI ?_ | with_reducible refine y_ltI ?_ | with_reducible refine y_leI ?_ | with_reducible refine y_gtI ?_ | with_reducible refine y_geI ?_ | with_reducible refine y_eqI ?_ | with_reducible refine y_neI ?_ | with_reducible refine y_eqB ?_ | with_reducible refine y_neB ?_ | with_reducible refine y_eqS ?_ | with_reducible refine y_neS ?_ | with_reducible refine y_isN ?_ | with_reducible refine y_isnN ?_ | with_reducible refine y_wget ?_ | with_reducible refine And.intro (len_ok (by with_unfolding_all exact rfl)) ?_))
      have h3 := sum_pos n pre
      refine ⟨rfl, f + i, pre ++ [v], _, rfl, by rw [hus, List.append_assoc]; rfl, ?_, by omega⟩
      rw [List.map_append, List.sum_append, List.map_singleton, List.sum_singleton]
      rcases hr with ⟨r1, r2⟩ | ⟨r1, r2⟩ <;> omega
  · rintro _ _ ⟨rfl, f, pre, x4, rfl, hus, hf, hf4⟩
    (repeat (first | with_reducible refine w_seq ?_ | with_reducible refine w_set ?_ | with_reducible refine w_expr ?_ | with_reducible refine w_ret ?_ | with_reducible refine w_retN ?_ | with_reducible refine w_store ?_ | with_reducible refine w_nop ?_ | with_reducible refine w_for ?_ | with_reducible refine w_asg ?_ | with_reducible refine w_ct ?_ | with_reducible refine w_brk ?_ | with_reducible refine y_f2 ?_ | with_reducible refine y_C ?_ | with_reducible refine y_var (by with_unfolding_all exact rfl) ?_ | with_reducible refine y_f1 ?_ | with_reducible refine y_B ?_ | with_reducible refine y_unB ?_ | with_reducible refine y_ch ?_ | with_reducible refine y_tru ?_ | with_reducible refine y_tbl ?_ | with_reducible refine y_and ?_ | with_reducible refine y_or ?_ | with_reducible refine y_not ?_ | with_reducible refine y_andV ?_ | with_reducible refine y_notV ?_ | with_reducible refine y_nil ?_ | with_reducible refine y_cons ?_ | with_reducible refine y_tup ?_ | with_reducible refine y_lst ?_ | with_reducible refine y_val ?_ | with_reducible refine y_loc ?_ | with_reducible refine y_dval ?_ | with_reducible refine y_dloc ?_ | with_reducible refine y_ice ?_ | with_reducible refine y_oNone ?_ | with_reducible refine y_oSome ?_ | with_reducible refine y_sl ?_ | with_reducible refine y_A ?_ | with_reducible refine y_call ?_ | with_reducible refine y_M ?_ | with_reducible refine y_aComp ?_ | with_reducible refine y_rng1 ?_ | with_reducible refine y_over ?_ | with_reducible refine y_addI ?_ | with_reducible refine y_subI ?_ | with_reducible refine y_ltI ?_ | with_reducible refine y_leI ?_ | with_reducible refine y_gtI ?_ | with_reducible refine y_geI ?_ | with_reducible refine y_eqI ?_ | with_reducible refine y_neI ?_ | with_reducible refine y_eqB ?_ | with_reducible refine y_neB ?_ | with_reducible refine y_eqS ?_ | with_reducible refine y_neS ?_ | with_reducible refine y_isN ?_ | with_reducible refine y_isnN ?_ | with_reducible refine y_wget ?_ | with_reducible refine And.intro (len_ok (by with_unfolding_all exact rfl)) ?_))
    refine ⟨rfl, f, rfl, .inl ⟨hf4, ?_⟩⟩
    rw [hcnt, hf, hus, List.append_nil]
theorem parts_in {c : Nat} : ∀ (n k : Nat) {m : Nat} {u : U} {S : Sto}, Pl c m u → Y (call (n + k + 2) i_parts_in [u, .int (26 - n)] S) (PartsP n u S)
  | 0, k, m, u, S, p => parts_step 0 (0 + k) p fun e he => by cases he
  | n + 1, k, m, u, S, p => by
    have := parts_step (n + 1) (n + k + 1) (S := S) p fun e he m u p => by
      cases he
      exact parts_in n k p
    rw [show n + 1 + k + 2 = n + k + 1 + 2 from by omega]
    exact this
theorem is_saying {c : Nat} {k m : Nat} {u : U} {S : Sto} (p : Pl c m u) : Y (call (k + 28) i_is_saying [u] S) fun r S' => S' = S ∧ r = .bl (decide (cnt 25 u ≤ 400)) := by
  refine y_run ?_
  show WS (b_is_saying (call (k + 27)) [some u] S) _
  unfold b_is_saying c_MOST_PARTS
  (repeat (first | with_reducible refine w_seq ?_ | with_reducible refine w_set ?_ | with_reducible refine w_expr ?_ | with_reducible refine w_ret ?_ | with_reducible refine w_retN ?_ | with_reducible refine w_store ?_ | with_reducible refine w_nop ?_ | with_reducible refine w_for ?_ | with_reducible refine w_asg ?_ | with_reducible refine w_ct ?_ | with_reducible refine w_brk ?_ | with_reducible refine y_f2 ?_ | with_reducible refine y_C ?_ | with_reducible refine y_var (by with_unfolding_all exact rfl) ?_ | with_reducible refine y_f1 ?_ | with_reducible refine y_B ?_ | with_reducible refine y_unB ?_ | with_reducible refine y_ch ?_ | with_reducible refine y_tru ?_ | with_reducible refine y_tbl ?_ | with_reducible refine y_and ?_ | with_reducible refine y_or ?_ | with_reducible refine y_not ?_ | with_reducible refine y_andV ?_ | with_reducible refine y_notV ?_ | with_reducible refine y_nil ?_ | with_reducible refine y_cons ?_ | with_reducible refine y_tup ?_ | with_reducible refine y_lst ?_ | with_reducible refine y_val ?_ | with_reducible refine y_loc ?_ | with_reducible refine y_dval ?_ | with_reducible refine y_dloc ?_ | with_reducible refine y_ice ?_ | with_reducible refine y_oNone ?_ | with_reducible refine y_oSome ?_ | with_reducible refine y_sl ?_ | with_reducible refine y_A ?_ | with_reducible refine y_call ?_ | with_reducible refine y_M ?_ | with_reducible refine y_aComp ?_ | with_reducible refine y_rng1 ?_ | with_reducible refine y_over ?_ | with_reducible refine y_addI ?_ | with_reducible refine y_subI ?_ | with_reducible refine y_ltI ?_ | with_reducible refine y_leI ?_ | with_reducible refine y_gtI ?_ | with_reducible refine y_geI ?_ | with_reducible refine y_eqI ?_ | with_reducible refine y_neI ?_ | with_reducible refine y_eqB ?_ | with_reducible refine y_neB ?_ | with_reducible refine y_eqS ?_ | with_reducible refine y_neS ?_ | with_reducible refine y_isN ?_ | with_reducible refine y_isnN ?_ | with_reducible refine y_wget ?_ | with_reducible refine And.intro (len_ok (by with_unfolding_all exact rfl)) ?_))
  refine ⟨rfl, ?_⟩
  have h := parts_in (c := c) 25 k (S := S) p
  rw [show 25 + k + 2 = k + 27 by omega] at h
  refine Y.mono (show Y (call (k + 27) i_parts_in [u, .int 1] S) _ from h) ?_
  rintro _ _ ⟨rfl, i, rfl, hr⟩
  (repeat (first | with_reducible refine w_seq ?_ | with_reducible refine w_set ?_ | with_reducible refine w_expr ?_ | with_reducible refine w_ret ?_ | with_reducible refine w_retN ?_ | with_reducible refine w_store ?_ | with_reducible refine w_nop ?_ | with_reducible refine w_for ?_ | with_reducible refine w_asg ?_ | with_reducible refine w_ct ?_ | with_reducible refine w_brk ?_ | with_reducible refine y_f2 ?_ | with_reducible refine y_C ?_ | with_reducible refine y_var (by with_unfolding_all exact rfl) ?_ | with_reducible refine y_f1 ?_ | with_reducible refine y_B ?_ | with_reducible refine y_unB ?_ | with_reducible refine y_ch ?_ | with_reducible refine y_tru ?_ | with_reducible refine y_tbl ?_ | with_reducible refine y_and ?_ | with_reducible refine y_or ?_ | with_reducible refine y_not ?_ | with_reducible refine y_andV ?_ | with_reducible refine y_notV ?_ | with_reducible refine y_nil ?_ | with_reducible refine y_cons ?_ | with_reducible refine y_tup ?_ | with_reducible refine y_lst ?_ | with_reducible refine y_val ?_ | with_reducible refine y_loc ?_ | with_reducible refine y_dval ?_ | with_reducible refine y_dloc ?_ | with_reducible refine y_ice ?_ | with_reducible refine y_oNone ?_ | with_reducible refine y_oSome ?_ | with_reducible refine y_sl ?_ | with_reducible refine y_A ?_ | with_reducible refine y_call ?_ | with_reducible refine y_M ?_ | with_reducible refine y_aComp ?_ | with_reducible refine y_rng1 ?_ | with_reducible refine y_over ?_ | with_reducible refine y_addI ?_ | with_reducible refine y_subI ?_ | with_reducible refine y_ltI ?_ | with_reducible refine y_leI ?_ | with_reducible refine y_gtI ?_ | with_reducible refine y_geI ?_ | with_reducible refine y_eqI ?_ | with_reducible refine y_neI ?_ | with_reducible refine y_eqB ?_ | with_reducible refine y_neB ?_ | with_reducible refine y_eqS ?_ | with_reducible refine y_neS ?_ | with_reducible refine y_isN ?_ | with_reducible refine y_isnN ?_ | with_reducible refine y_wget ?_ | with_reducible refine And.intro (len_ok (by with_unfolding_all exact rfl)) ?_))
  refine ⟨rfl, ?_⟩
  congr 1
  refine decide_eq_decide.mpr ?_
  rcases hr with ⟨r1, r2⟩ | ⟨r1, r2⟩ <;> omega

end Law

set_option Elab.async false
set_option linter.all false
set_option maxRecDepth 100000
set_option maxHeartbeats 2000000
namespace Law
open PySem PySem.Spec L2 DL
/-! ### counted -/
def CountP (n : Nat) (u : U) (S : Sto) (r : U) (S' : Sto) : Prop := S' = S ∧ r = .int (cnt n u)
theorem y_getM {tab : List (Str × U)} {z : Str} {e : U} {S : Sto} {Q : U → Sto → Prop} (h : Q ((lookT tab z).getD e) S) : Y (getM (.dic (tab.map fun p => (.inr p.1 : Key)) (tab.map (·.2))) [.str z, e] S) Q := by
  rw [← valU_look] at h
  exact h
theorem counted_step {c : Nat} (hc9 : c ≤ 9) (n k : Nat) {m : Nat} (hm : m ≤ 64) {u : U} {S : Sto} (p : Pl c m u)
    (hrec : ∀ e, n = e + 1 → ∀ {m : Nat} {u : U}, m ≤ 64 → Pl c m u → Y (call k i_law_counted [u, .int (26 - e)] S) (CountP e u S)) :
    Y (call (k + 1) i_law_counted [u, .int (26 - n)] S) (CountP n u S) := by
  refine y_run ?_
  show WS (b_law_counted (call k) [some u, some (.int (26 - n)), none, none, none, none, none] S) _
  unfold b_law_counted
  (repeat (first | with_reducible refine w_seq ?_ | with_reducible refine w_set ?_ | with_reducible refine w_expr ?_ | with_reducible refine w_ret ?_ | with_reducible refine w_retN ?_ | with_reducible refine w_store ?_ | with_reducible refine w_nop ?_ | with_reducible refine w_for ?_ | with_reducible refine w_asg ?_ | with_reducible refine w_ct ?_ | with_reducible refine w_brk ?_ | with_reducible refine y_f2 ?_ | with_reducible refine y_C ?_ | with_reducible refine y_var (by with_unfolding_all exact rfl) ?_ | with_reducible refine y_f1 ?_ | with_reducible refine y_B ?_ | with_reducible refine y_unB ?_ | with_reducible refine y_ch ?_ | with_reducible refine y_tru ?_ | with_reducible refine y_tbl ?_ | with_reducible refine y_and ?_ | with_reducible refine y_or ?_ | with_reducible refine y_not ?_ | with_reducible refine y_andV ?_ | with_reducible refine y_notV ?_ | with_reducible refine y_nil ?_ | with_reducible refine y_cons ?_ | with_reducible refine y_tup ?_ | with_reducible refine y_lst ?_ | with_reducible refine y_val ?_ | with_reducible refine y_loc ?_ | with_reducible refine y_dval ?_ | with_reducible refine y_dloc ?_ | with_reducible refine y_ice ?_ | with_reducible refine y_oNone ?_ | with_reducible refine y_oSome ?_ | with_reducible refine y_sl ?_ | with_reducible refine y_A ?_ | with_reducible refine y_call ?_ | with_reducible refine y_M ?_ | with_reducible refine y_aComp ?_ | with_reducible refine y_rng1 ?_ | with_reducible refine y_over ?_ | with_reducible refine y_addI ?_ | with_reducible refine y_subI ?_ | with_reducible refine y_ltI ?_ | with_reducible refine y_leI ?_ | with_reducible refine y_gtI ?_ | with_reducible refine y_geI ?_ | with_reducible refine y_eqI ?_ | with_reducible refine y_neI ?_ | with_reducible refine y_eqB ?_ | with_reducible refine y_neB ?_ | with_reducible refine y_eqS ?_ | with_reducible refine y_neS ?_ | with_reducible refine y_isN ?_ | with_reducible refine y_isnN ?_ | with_reducible refine y_wget ?_ | with_reducible refine And.intro (len_ok (by with_unfolding_all exact rfl)) ?_))
  refine w_ifP (fun b => (b = true → cnt n u = 1000) ∧ (b = false → ∃ z us e, u = .tup (.str z :: us) ∧ n = e + 1)) ?_ (fun h => ?_) (fun h => ?_)
  · (repeat (first | with_reducible refine w_seq ?_ | with_reducible refine w_set ?_ | with_reducible refine w_expr ?_ | with_reducible refine w_ret ?_ | with_reducible refine w_retN ?_ | with_reducible refine w_store ?_ | with_reducible refine w_nop ?_ | with_reducible refine w_for ?_ | with_reducible refine w_asg ?_ | with_reducible refine w_ct ?_ | with_reducible refine w_brk ?_ | with_reducible refine y_f2 ?_ | with_reducible refine y_C ?_ | with_reducible refine y_var (by with_unfolding_all exact rfl) ?_ | with_reducible refine y_f1 ?_ | with_reducible refine y_B ?_ | with_reducible refine y_unB ?_ | with_reducible refine y_ch ?_ | with_reducible refine y_tru ?_ | with_reducible refine y_tbl ?_ | with_reducible refine y_and ?_ | with_reducible refine y_or ?_ | with_reducible refine y_not ?_ | with_reducible refine y_andV ?_ | with_reducible refine y_notV ?_ | with_reducible refine y_nil ?_ | with_reducible refine y_cons ?_ | with_reducible refine y_tup ?_ | with_reducible refine y_lst ?_ | with_reducible refine y_val ?_ | with_reducible refine y_loc ?_ | with_reducible refine y_dval ?_ | with_reducible refine y_dloc ?_ | with_reducible refine y_ice ?_ | with_reducible refine y_oNone ?_ | with_reducible refine y_oSome ?_ | with_reducible refine y_sl ?_ | with_reducible refine y_A ?_ | with_reducible refine y_call ?_ | with_reducible refine y_M ?_ | with_reducible refine y_aComp ?_ | with_reducible refine y_rng1 ?_ | with_reducible refine y_over ?_ | with_reducible refine y_addI ?_ | with_reducible refine y_subI ?_ | with_reducible refine y_ltI ?_ | with_reducible refine y_leI ?_ | with_reducible refine y_gtI ?_ | with_reducible refine y_geI ?_ | with_reducible refine y_eqI ?_ | with_reducible refine y_neI ?_ | with_reducible refine y_eqB ?_ | with_reducible refine y_neB ?_ | with_reducible refine y_eqS ?_ | with_reducible refine y_neS ?_ | with_reducible refine y_isN ?_ | with_reducible refine y_isnN ?_ | with_reducible refine y_wget ?_ | with_reducible refine And.intro (len_ok (by with_unfolding_all exact rfl)) ?_))
    refine ite_b (fun c1 => ?_) (fun c1 => ?_)
    · have c1 := of_decide_eq_true c1
      refine ⟨rfl, fun _ => ?_, fun h => by cases h⟩
      rw [show n = 0 by omega, cnt_zero]
    have c1 := of_decide_eq_false c1
    (repeat (first | with_reducible refine w_seq ?_ | with_reducible refine w_set ?_ | with_reducible refine w_expr ?_ | with_reducible refine w_ret ?_ | with_reducible refine w_retN ?_ | with_reducible refine w_store ?_ | with_reducible refine w_nop ?_ | with_reducible refine w_for ?_ | with_reducible refine w_asg ?_ | with_reducible refine w_ct ?_ | with_reducible refine w_brk ?_ | with_reducible refine y_f2 ?_ | with_reducible refine y_C ?_ | with_reducible refine y_var (by with_unfolding_all exact rfl) ?_ | with_reducible refine y_f1 ?_ | with_reducible refine y_B ?_ | with_reducible refine y_unB ?_ | with_reducible refine y_ch ?_ | with_reducible refine y_tru ?_ | with_reducible refine y_tbl ?_ | with_reducible refine y_and ?_ | with_reducible refine y_or ?_ | with_reducible refine y_not ?_ | with_reducible refine y_andV ?_ | with_reducible refine y_notV ?_ | with_reducible refine y_nil ?_ | with_reducible refine y_cons ?_ | with_reducible refine y_tup ?_ | with_reducible refine y_lst ?_ | with_reducible refine y_val ?_ | with_reducible refine y_loc ?_ | with_reducible refine y_dval ?_ | with_reducible refine y_dloc ?_ | with_reducible refine y_ice ?_ | with_reducible refine y_oNone ?_ | with_reducible refine y_oSome ?_ | with_reducible refine y_sl ?_ | with_reducible refine y_A ?_ | with_reducible refine y_call ?_ | with_reducible refine y_M ?_ | with_reducible refine y_aComp ?_ | with_reducible refine y_rng1 ?_ | with_reducible refine y_over ?_ | with_reducible refine y_addI ?_ | with_reducible refine y_subI ?_ | with_reducible refine y_ltI ?_ | with_reducible refine y_leI ?_ | with_reducible refine y_gtI ?_ | with_reducible refine y_geI ?_ | with_reducible refine y_eqI ?_ | with_reducible refine y_neI ?_ | with_reducible refine y_eqB ?_ | with_reducible refine y_neB ?_ | with_reducible refine y_eqS ?_ | with_reducible refine y_neS ?_ | with_reducible refine y_isN ?_ | with_reducible refine y_isnN ?_ | with_reducible refine y_wget ?_ | with_reducible refine And.intro (len_ok (by with_unfolding_all exact rfl)) ?_))
    refine y_isT p ?_
    (repeat (first | with_reducible refine w_seq ?_ | with_reducible refine w_set ?_ | with_reducible refine w_expr ?_ | with_reducible refine w_ret ?_ | with_reducible refine w_retN ?_ | with_reducible refine w_store ?_ | with_reducible refine w_nop ?_ | with_reducible refine w_for ?_ | with_reducible refine w_asg ?_ | with_reducible refine w_ct ?_ | with_reducible refine w_brk ?_ | with_reducible refine y_f2 ?_ | with_reducible refine y_C ?_ | with_reducible refine y_var (by with_unfolding_all exact rfl) ?_ | with_reducible refine y_f1 ?_ | with_reducible refine y_B ?_ | with_reducible refine y_unB ?_ | with_reducible refine y_ch ?_ | with_reducible refine y_tru ?_ | with_reducible refine y_tbl ?_ | with_reducible refine y_and ?_ | with_reducible refine y_or ?_ | with_reducible refine y_not ?_ | with_reducible refine y_andV ?_ | with_reducible refine y_notV ?_ | with_reducible refine y_nil ?_ | with_reducible refine y_cons ?_ | with_reducible refine y_tup ?_ | with_reducible refine y_lst ?_ | with_reducible refine y_val ?_ | with_reducible refine y_loc ?_ | with_reducible refine y_dval ?_ | with_reducible refine y_dloc ?_ | with_reducible refine y_ice ?_ | with_reducible refine y_oNone ?_ | with_reducible refine y_oSome ?_ | with_reducible refine y_sl ?_ | with_reducible refine y_A ?_ | with_reducible refine y_call ?_ | with_reducible refine y_M ?_ | with_reducible refine y_aComp ?_ | with_reducible refine y_rng1 ?_ | with_reducible refine y_over ?_ | with_reducible refine y_addI ?_ | with_reducible refine y_subI ?_ | with_reducible refine y_ltI ?_ | with_reducible refine y_leI ?_ | with_reducible refine y_gtI ?_ | with_reducible refine y_geI ?_ | with_reducible refine y_eqI ?_ | with_reducible refine y_neI ?_ | with_reducible refine y_eqB ?_ | with_reducible refine y_neB ?_ | with_reducible refine y_eqS ?_ | with_reducible refine y_neS ?_ | with_reducible refine y_isN ?_ | with_reducible refine y_isnN ?_ | with_reducible refine y_wget ?_ | with_reducible refine And.intro (len_ok (by with_unfolding_all exact rfl)) ?_))
    by_cases ht : ∃ us, u = .tup us
    · obtain ⟨us, rfl⟩ := ht
      refine ite_b (fun c2 => by cases c2) (fun c2 => ?_)
      (repeat (first | with_reducible refine w_seq ?_ | with_reducible refine w_set ?_ | with_reducible refine w_expr ?_ | with_reducible refine w_ret ?_ | with_reducible refine w_retN ?_ | with_reducible refine w_store ?_ | with_reducible refine w_nop ?_ | with_reducible refine w_for ?_ | with_reducible refine w_asg ?_ | with_reducible refine w_ct ?_ | with_reducible refine w_brk ?_ | with_reducible refine y_f2 ?_ | with_reducible refine y_C ?_ | with_reducible refine y_var (by with_unfolding_all exact rfl) ?_ | with_reducible refine y_f1 ?_ | with_reducible refine y_B ?_ | with_reducible refine y_unB ?_ | with_reducible refine y_ch ?_ | with_reducible refine y_tru ?_ | with_reducible refine y_tbl ?_ | with_reducible refine y_and ?_ | with_reducible refine y_or ?_ | with_reducible refine y_not ?_ | with_reducible refine y_andV ?_ | with_reducible refine y_notV ?_ | with_reducible refine y_nil ?_ | with_reducible refine y_cons ?_ | with_reducible refine y_tup ?_ | with_reducible refine y_lst ?_ | with_reducible refine y_val ?_ | with_reducible refine y_loc ?_ | with_reducible refine y_dval ?_ | with_reducible refine y_dloc ?_ | with_reducible refine y_ice ?_ | with_reducible refine y_oNone ?_ | with_reducible refine y_oSome ?_ | with_reducible refine y_sl ?_ | with_reducible refine y_A ?_ | with_reducible refine y_call ?_ | with_reducible refine y_M ?_ | with_reducible refine y_aComp ?_ | with_reducible refine y_rng1 ?_ | with_reducible refine y_over ?_ | with_reducible refine y_addI ?_ | with_reducible refine y_subI ?_ | with_reducible refine y_ltI ?_ | with_reducible refine y_leI ?_ | with_reducible refine y_gtI ?_ | with_reducible refine y_geI ?_ | with_reducible refine y_eqI ?_ | with_reducible refine y_neI ?_ | with_reducible refine y_eqB ?_ | with_reducible refine y_neB ?_ | with_reducible refine y_eqS ?_ | with_reducible refine y_neS ?_ | with_reducible refine y_isN ?_ | with_reducible refine y_isnN ?_ | with_reducible refine y_wget ?_ | with_reducible refine And.intro (len_ok (by with_unfolding_all exact rfl)) ?_))
      refine y_eqE p hm ?_
      (repeat (first | with_reducible refine w_seq ?_ | with_reducible refine w_set ?_ | with_reducible refine w_expr ?_ | with_reducible refine w_ret ?_ | with_reducible refine w_retN ?_ | with_reducible refine w_store ?_ | with_reducible refine w_nop ?_ | with_reducible refine w_for ?_ | with_reducible refine w_asg ?_ | with_reducible refine w_ct ?_ | with_reducible refine w_brk ?_ | with_reducible refine y_f2 ?_ | with_reducible refine y_C ?_ | with_reducible refine y_var (by with_unfolding_all exact rfl) ?_ | with_reducible refine y_f1 ?_ | with_reducible refine y_B ?_ | with_reducible refine y_unB ?_ | with_reducible refine y_ch ?_ | with_reducible refine y_tru ?_ | with_reducible refine y_tbl ?_ | with_reducible refine y_and ?_ | with_reducible refine y_or ?_ | with_reducible refine y_not ?_ | with_reducible refine y_andV ?_ | with_reducible refine y_notV ?_ | with_reducible refine y_nil ?_ | with_reducible refine y_cons ?_ | with_reducible refine y_tup ?_ | with_reducible refine y_lst ?_ | with_reducible refine y_val ?_ | with_reducible refine y_loc ?_ | with_reducible refine y_dval ?_ | with_reducible refine y_dloc ?_ | with_reducible refine y_ice ?_ | with_reducible refine y_oNone ?_ | with_reducible refine y_oSome ?_ | with_reducible refine y_sl ?_ | with_reducible refine y_A ?_ | with_reducible refine y_call ?_ | with_reducible refine y_M ?_ | with_reducible refine y_aComp ?_ | with_reducible refine y_rng1 ?_ | with_reducible refine y_over ?_ | with_reducible refine y_addI ?_ | with_reducible refine y_subI ?_ | with_reducible refine y_ltI ?_ | with_reducible refine y_leI ?_ | with_reducible refine y_gtI ?_ | with_reducible refine y_geI ?_ | with_reducible refine y_eqI ?_ | with_reducible refine y_neI ?_ | with_reducible refine y_eqB ?_ | with_reducible refine y_neB ?_ | with_reducible refine y_eqS ?_ | with_reducible refine y_neS ?_ | with_reducible refine y_isN ?_ | with_reducible refine y_isnN ?_ | with_reducible refine y_wget ?_ | with_reducible refine And.intro (len_ok (by with_unfolding_all exact rfl)) ?_))
      cases us with
      | nil => exact ⟨rfl, fun _ => cnt_bad (fun z us e => by cases e), fun h => by cases h⟩
      | cons v us =>
        refine ite_b (fun c3 => by cases c3) (fun c3 => ?_)
        (repeat (first | with_reducible refine w_seq ?_ | with_reducible refine w_set ?_ | with_reducible refine w_expr ?_ | with_reducible refine w_ret ?_ | with_reducible refine w_retN ?_ | with_reducible refine w_store ?_ | with_reducible refine w_nop ?_ | with_reducible refine w_for ?_ | with_reducible refine w_asg ?_ | with_reducible refine w_ct ?_ | with_reducible refine w_brk ?_ | with_reducible refine y_f2 ?_ | with_reducible refine y_C ?_ | with_reducible refine y_var (by with_unfolding_all exact rfl) ?_ | with_reducible refine y_f1 ?_ | with_reducible refine y_B ?_ | with_reducible refine y_unB ?_ | with_reducible refine y_ch ?_ | with_reducible refine y_tru ?_ | with_reducible refine y_tbl ?_ | with_reducible refine y_and ?_ | with_reducible refine y_or ?_ | with_reducible refine y_not ?_ | with_reducible refine y_andV ?_ | with_reducible refine y_notV ?_ | with_reducible refine y_nil ?_ | with_reducible refine y_cons ?_ | with_reducible refine y_tup ?_ | with_reducible refine y_lst ?_ | with_reducible refine y_val ?_ | with_reducible refine y_loc ?_ | with_reducible refine y_dval ?_ | with_reducible refine y_dloc ?_ | with_reducible refine y_ice ?_ | with_reducible refine y_oNone ?_ | with_reducible refine y_oSome ?_ | with_reducible refine y_sl ?_ | with_reducible refine y_A ?_ | with_reducible refine y_call ?_ | with_reducible refine y_M ?_ | with_reducible refine y_aComp ?_ | with_reducible refine y_rng1 ?_ | with_reducible refine y_over ?_ | with_reducible refine y_addI ?_ | with_reducible refine y_subI ?_ | with_reducible refine y_ltI ?_ | with_reducible refine y_leI ?_ | with_reducible refine y_gtI ?_ | with_reducible refine y_geI ?_ | with_reducible refine y_eqI ?_ | with_reducible refine y_neI ?_ | with_reducible refine y_eqB ?_ | with_reducible refine y_neB ?_ | with_reducible refine y_eqS ?_ | with_reducible refine y_neS ?_ | with_reducible refine y_isN ?_ | with_reducible refine y_isnN ?_ | with_reducible refine y_wget ?_ | with_reducible refine And.intro (len_ok (by with_unfolding_all exact rfl)) ?_))
        refine y_ixT0 ?_
        (repeat (first | with_reducible refine w_seq ?_ | with_reducible refine w_set ?_ | with_reducible refine w_expr ?_ | with_reducible refine w_ret ?_ | with_reducible refine w_retN ?_ | with_reducible refine w_store ?_ | with_reducible refine w_nop ?_ | with_reducible refine w_for ?_ | with_reducible refine w_asg ?_ | with_reducible refine w_ct ?_ | with_reducible refine w_brk ?_ | with_reducible refine y_f2 ?_ | with_reducible refine y_C ?_ | with_reducible refine y_var (by with_unfolding_all exact rfl) ?_ | with_reducible refine y_f1 ?_ | with_reducible refine y_B ?_ | with_reducible refine y_unB ?_ | with_reducible refine y_ch ?_ | with_reducible refine y_tru ?_ | with_reducible refine y_tbl ?_ | with_reducible refine y_and ?_ | with_reducible refine y_or ?_ | with_reducible refine y_not ?_ | with_reducible refine y_andV ?_ | with_reducible refine y_notV ?_ | with_reducible refine y_nil ?_ | with_reducible refine y_cons ?_ | with_reducible refine y_tup ?_ | with_reducible refine y_lst ?_ | with_reducible refine y_val ?_ | with_reducible refine y_loc ?_ | with_reducible refine y_dval ?_ | with_reducible refine y_dloc ?_ | with_reducible refine y_ice ?_ | with_reducible refine y_oNone ?_ | with_reducible refine y_oSome ?_ | with_reducible refine y_sl ?_ | with_reducible refine y_A ?_ | with_reducible refine y_call ?_ | with_reducible refine y_M ?_ | with_reducible refine y_aComp ?_ | with_reducible refine y_rng1 ?_ | with_reducible refine y_over ?_ | with_reducible refine y_addI ?_ | with_reducible refine y_subI ?_ | with_reducible refine y_ltI ?_ | with_reducible refine y_leI ?_ | with_reducible refine y_gtI ?_ | with_reducible refine y_geI ?_ | with_reducible refine y_eqI ?_ | with_reducible refine y_neI ?_ | with_reducible refine y_eqB ?_ | with_reducible refine y_neB ?_ | with_reducible refine y_eqS ?_ | with_reducible refine y_neS ?_ | with_reducible refine y_isN ?_ | with_reducible refine y_isnN ?_ | with_reducible refine y_wget ?_ | with_reducible refine And.intro (len_ok (by with_unfolding_all exact rfl)) ?_))
        obtain ⟨_, m, rfl, pus⟩ := p.tup
        refine y_isS (pus v List.mem_cons_self) ?_
        (repeat (first | with_reducible refine w_seq ?_ | with_reducible refine w_set ?_ | with_reducible refine w_expr ?_ | with_reducible refine w_ret ?_ | with_reducible refine w_retN ?_ | with_reducible refine w_store ?_ | with_reducible refine w_nop ?_ | with_reducible refine w_for ?_ | with_reducible refine w_asg ?_ | with_reducible refine w_ct ?_ | with_reducible refine w_brk ?_ | with_reducible refine y_f2 ?_ | with_reducible refine y_C ?_ | with_reducible refine y_var (by with_unfolding_all exact rfl) ?_ | with_reducible refine y_f1 ?_ | with_reducible refine y_B ?_ | with_reducible refine y_unB ?_ | with_reducible refine y_ch ?_ | with_reducible refine y_tru ?_ | with_reducible refine y_tbl ?_ | with_reducible refine y_and ?_ | with_reducible refine y_or ?_ | with_reducible refine y_not ?_ | with_reducible refine y_andV ?_ | with_reducible refine y_notV ?_ | with_reducible refine y_nil ?_ | with_reducible refine y_cons ?_ | with_reducible refine y_tup ?_ | with_reducible refine y_lst ?_ | with_reducible refine y_val ?_ | with_reducible refine y_loc ?_ | with_reducible refine y_dval ?_ | with_reducible refine y_dloc ?_ | with_reducible refine y_ice ?_ | with_reducible refine y_oNone ?_ | with_reducible refine y_oSome ?_ | with_reducible refine y_sl ?_ | with_reducible refine y_A ?_ | with_reducible refine y_call ?_ | with_reducible refine y_M ?_ | with_reducible refine y_aComp ?_ | with_reducible refine y_rng1 ?_ | with_reducible refine y_over ?_ | with_reducible refine y_addI ?_ | with_reducible refine y_subI ?_ | with_reducible refine y_ltI ?_ | with_reducible refine y_leI ?_ | with_reducible refine y_gtI ?_ | with_reducible refine y_geI ?_ | with_reducible refine y_eqI ?_ | with_reducible refine y_neI ?_ | with_reducible refine y_eqB ?_ | with_reducible refine y_neB ?_ | with_reducible refine y_eqS ?_ | with_reducible refine y_neS ?_ | with_reducible refine y_isN ?_ | with_reducible refine y_isnN ?_ | with_reducible refine y_wget ?_ | with_reducible refine And.intro (len_ok (by with_unfolding_all exact rfl)) ?_))
        cases v with
        | str z => exact ⟨rfl, (fun h => by cases h), fun _ => ⟨z, us, n - 1, rfl, by omega⟩⟩
        | _ => exact ⟨rfl, fun _ => cnt_bad (fun z us e => by cases e), fun h => by cases h⟩
    · have e : isTup u = false := by
        cases u with
        | tup us => exact absurd ⟨us, rfl⟩ ht
        | _ => rfl
      rw [e]
      refine ite_b (fun c2 => ?_) (fun c2 => by cases c2)
      exact ⟨rfl, fun _ => cnt_bad fun z us e => ht ⟨_, e⟩, fun h => by cases h⟩
  · (repeat (first | with_reducible refine w_seq ?_ | with_reducible refine w_set ?_ | with_reducible refine w_expr ?_ | with_reducible refine w_ret ?_ | with_reducible refine w_retN ?_ | with_reducible refine w_store ?_ | with_reducible refine w_nop ?_ | with_reducible refine w_for ?_ | with_reducible refine w_asg ?_ | with_reducible refine w_ct ?_ | with_reducible refine w_brk ?_ | with_reducible refine y_f2 ?_ | with_reducible refine y_C ?_ | with_reducible refine y_var (by with_unfolding_all exact rfl) ?_ | with_reducible refine y_f1 ?_ | with_reducible refine y_B ?_ | with_reducible refine y_unB ?_ | with_reducible refine y_ch ?_ | with_reducible refine y_tru ?_ | with_reducible refine y_tbl ?_ | with_reducible refine y_and ?_ | with_reducible refine y_or ?_ | with_reducible refine y_not ?_ | with_reducible refine y_andV ?_ | with_reducible refine y_notV ?_ | with_reducible refine y_nil ?_ | with_reducible refine y_cons ?_ | with_reducible refine y_tup ?_ | with_reducible refine y_lst ?_ | with_reducible refine y_val ?_ | with_reducible refine y_loc ?_ | with_reducible refine y_dval ?_ | with_reducible refine y_dloc ?_ | with_reducible refine y_ice ?_ | with_reducible refine y_oNone ?_ | with_reducible refine y_oSome ?_ | with_reducible refine y_sl ?_ | with_reducible refine y_A ?_ | with_reducible refine y_call ?_ | with_reducible refine y_M ?_ | with_reducible refine y_aComp ?_ | with_reducible refine y_rng1 ?_ | with_reducible refine y_over ?_ | with_reducible refine y_addI ?_ | with_reducible refine y_subI ?_ | with_reducible refine y_ltI ?_ | with_reducible refine y_leI ?_ | with_reducible refine y_gtI ?_ | with_reducible refine y_geI ?_ | with_reducible refine y_eqI ?_ | with_reducible refine y_neI ?_ | with_reducible refine y_eqB ?_ | with_reducible refine y_neB ?_ | with_reducible refine y_eqS ?_ | with_reducible refine y_neS ?_ | with_reducible refine y_isN ?_ | with_reducible refine y_isnN ?_ | with_reducible refine y_wget ?_ | with_reducible refine And.intro (len_ok (by with_unfolding_all exact rfl)) ?_))
    exact ⟨rfl, by rw [h.1 rfl]⟩
  obtain ⟨z, us, n, rfl, rfl⟩ := h.2 rfl
  have hrec := @hrec n rfl
  obtain ⟨hl, m, rfl, pus⟩ := p.tup
  have pz := fun v hv => pus v (List.mem_cons_of_mem _ hv)
  (repeat (first | with_reducible refine w_seq ?_ | with_reducible refine w_set ?_ | with_reducible refine w_expr ?_ | with_reducible refine w_ret ?_ | with_reducible refine w_retN ?_ | with_reducible refine w_store ?_ | with_reducible refine w_nop ?_ | with_reducible refine w_for ?_ | with_reducible refine w_asg ?_ | with_reducible refine w_ct ?_ | with_reducible refine w_brk ?_ | with_reducible refine y_f2 ?_ | with_reducible refine y_C ?_ | with_reducible refine y_var (by with_unfolding_all exact rfl) ?_ | with_reducible refine y_f1 ?_ | with_reducible refine y_B ?_ | with_reducible refine y_unB ?_ | with_reducible refine y_ch ?_ | with_reducible refine y_tru ?_ | with_reducible refine y_tbl ?_ | with_reducible refine y_and ?_ | with_reducible refine y_or ?_ | with_reducible refine y_not ?_ | with_reducible refine y_andV ?_ | with_reducible refine y_notV ?_ | with_reducible refine y_nil ?_ | with_reducible refine y_cons ?_ | with_reducible refine y_tup ?_ | with_reducible refine y_lst ?_ | with_reducible refine y_val ?_ | with_reducible refine y_loc ?_ | with_reducible refine y_dval ?_ | with_reducible refine y_dloc ?_ | with_reducible refine y_ice ?_ | with_reducible refine y_oNone ?_ | with_reducible refine y_oSome ?_ | with_reducible refine y_sl ?_ | with_reducible refine y_A ?_ | with_reducible refine y_call ?_ | with_reducible refine y_M ?_ | with_reducible refine y_aComp ?_ | with_reducible refine y_rng1 ?_ | with_reducible refine y_over ?_ | with_reducible refine y_addI ?_ | with_reducible refine y_subI ?_ | with_reducible refine y_ltI ?_ | with_reducible refine y_leI ?_ | with_reducible refine y_gtI ?_ | with_reducible refine y_geI ?_ | with_reducible refine y_eqI ?_ | with_reducible refine y_neI ?_ | with_reducible refine y_eqB ?_ | with_reducible refine y_neB ?_ | with_reducible refine y_eqS ?_ | with_reducible refine y_neS ?_ | with_reducible refine y_isN ?_ | with_reducible refine y_isnN ?_ | with_reducible refine y_wget ?_ | with_reducible refine And.intro (len_ok (by with_unfolding_all exact rfl)) ?_))
  refine w_if ?_
  (repeat (first | with_reducible refine w_seq ?_ | with_reducible refine w_set ?_ | with_reducible refine w_expr ?_ | with_reducible refine w_ret ?_ | with_reducible refine w_retN ?_ | with_reducible refine w_store ?_ | with_reducible refine w_nop ?_ | with_reducible refine w_for ?_ | with_reducible refine w_asg ?_ | with_reducible refine w_ct ?_ | with_reducible refine w_brk ?_ | with_reducible refine y_f2 ?_ | with_reducible refine y_C ?_ | with_reducible refine y_var (by with_unfolding_all exact rfl) ?_ | with_reducible refine y_f1 ?_ | with_reducible refine y_B ?_ | with_reducible refine y_unB ?_ | with_reducible refine y_ch ?_ | with_reducible refine y_tru ?_ | with_reducible refine y_tbl ?_ | with_reducible refine y_and ?_ | with_reducible refine y_or ?_ | with_reducible refine y_not ?_ | with_reducible refine y_andV ?_ | with_reducible refine y_notV ?_ | with_reducible refine y_nil ?_ | with_reducible refine y_cons ?_ | with_reducible refine y_tup ?_ | with_reducible refine y_lst ?_ | with_reducible refine y_val ?_ | with_reducible refine y_loc ?_ | with_reducible refine y_dval ?_ | with_reducible refine y_dloc ?_ | with_reducible refine y_ice ?_ | with_reducible refine y_oNone ?_ | with_reducible refine y_oSome ?_ | with_reducible refine y_sl ?_ | with_reducible refine y_A ?_ | with_reducible refine y_call ?_ | with_reducible refine y_M ?_ | with_reducible refine y_aComp ?_ | with_reducible refine y_rng1 ?_ | with_reducible refine y_over ?_ | with_reducible refine y_addI ?_ | with_reducible refine y_subI ?_ | with_reducible refine y_ltI ?_ | with_reducible refine y_leI ?_ | with_reducible refine y_gtI ?_ | with_reducible refine y_geI ?_ | with_reducible refine y_eqI ?_ | with_reducible refine y_neI ?_ | with_reducible refine y_eqB ?_ | with_reducible refine y_neB ?_ | with_reducible refine y_eqS ?_ | with_reducible refine y_neS ?_ | with_reducible refine y_isN ?_ | with_reducible refine y_isnN ?_ | with_reducible refine y_wget ?_ | with_reducible refine And.intro (len_ok (by with_unfolding_all exact rfl)) ?_))
  refine y_ixT0 ?_
  (repeat (first | with_reducible refine w_seq ?_ | with_reducible refine w_set ?_ | with_reducible refine w_expr ?_ | with_reducible refine w_ret ?_ | with_reducible refine w_retN ?_ | with_reducible refine w_store ?_ | with_reducible refine w_nop ?_ | with_reducible refine w_for ?_ | with_reducible refine w_asg ?_ | with_reducible refine w_ct ?_ | with_reducible refine w_brk ?_ | with_reducible refine y_f2 ?_ | with_reducible refine y_C ?_ | with_reducible refine y_var (by with_unfolding_all exact rfl) ?_ | with_reducible refine y_f1 ?_ | with_reducible refine y_B ?_ | with_reducible refine y_unB ?_ | with_reducible refine y_ch ?_ | with_reducible refine y_tru ?_ | with_reducible refine y_tbl ?_ | with_reducible refine y_and ?_ | with_reducible refine y_or ?_ | with_reducible refine y_not ?_ | with_reducible refine y_andV ?_ | with_reducible refine y_notV ?_ | with_reducible refine y_nil ?_ | with_reducible refine y_cons ?_ | with_reducible refine y_tup ?_ | with_reducible refine y_lst ?_ | with_reducible refine y_val ?_ | with_reducible refine y_loc ?_ | with_reducible refine y_dval ?_ | with_reducible refine y_dloc ?_ | with_reducible refine y_ice ?_ | with_reducible refine y_oNone ?_ | with_reducible refine y_oSome ?_ | with_reducible refine y_sl ?_ | with_reducible refine y_A ?_ | with_reducible refine y_call ?_ | with_reducible refine y_M ?_ | with_reducible refine y_aComp ?_ | with_reducible refine y_rng1 ?_ | with_reducible refine y_over ?_ | with_reducible refine y_addI ?_ | with_reducible refine y_subI ?_ | with_reducible refine y_ltI ?_ | with_reducible refine y_leI ?_ | with_reducible refine y_gtI ?_ | with_reducible refine y_geI ?_ | with_reducible refine y_eqI ?_ | with_reducible refine y_neI ?_ | with_reducible refine y_eqB ?_ | with_reducible refine y_neB ?_ | with_reducible refine y_eqS ?_ | with_reducible refine y_neS ?_ | with_reducible refine y_isN ?_ | with_reducible refine y_isnN ?_ | with_reducible refine y_wget ?_ | with_reducible refine And.intro (len_ok (by with_unfolding_all exact rfl)) ?_))
  refine ite_b (fun c1 => ?_) (fun c1 => ?_)
  · have c1 := of_decide_eq_true c1
    subst c1
    (repeat (first | with_reducible refine w_seq ?_ | with_reducible refine w_set ?_ | with_reducible refine w_expr ?_ | with_reducible refine w_ret ?_ | with_reducible refine w_retN ?_ | with_reducible refine w_store ?_ | with_reducible refine w_nop ?_ | with_reducible refine w_for ?_ | with_reducible refine w_asg ?_ | with_reducible refine w_ct ?_ | with_reducible refine w_brk ?_ | with_reducible refine y_f2 ?_ | with_reducible refine y_C ?_ | with_reducible refine y_var (by with_unfolding_all exact rfl) ?_ | with_reducible refine y_f1 ?_ | with_reducible refine y_B ?_ | with_reducible refine y_unB ?_ | with_reducible refine y_ch ?_ | with_reducible refine y_tru ?_ | with_reducible refine y_tbl ?_ | with_reducible refine y_and ?_ | with_reducible refine y_or ?_ | with_reducible refine y_not ?_ | with_reducible refine y_andV ?_ | with_reducible refine y_notV ?_ | with_reducible refine y_nil ?_ | with_reducible refine y_cons ?_ | with_reducible refine y_tup ?_ | with_reducible refine y_lst ?_ | with_reducible refine y_val ?_ | with_reducible refine y_loc ?_ | with_reducible refine y_dval ?_ | with_reducible refine y_dloc ?_ | with_reducible refine y_ice ?_ | with_reducible refine y_oNone ?_ | with_reducible refine y_oSome ?_ | with_reducible refine y_sl ?_ | with_reducible refine y_A ?_ | with_reducible refine y_call ?_ | with_reducible refine y_M ?_ | with_reducible refine y_aComp ?_ | with_reducible refine y_rng1 ?_ | with_reducible refine y_over ?_ | with_reducible refine y_addI ?_ | with_reducible refine y_subI ?_ | with_reducible refine y_ltI ?_ | with_reducible refine y_leI ?_ | with_reducible refine y_gtI ?_ | with_reducible refine y_geI ?_ | with_reducible refine y_eqI ?_ | with_reducible refine y_neI ?_ | with_reducible refine y_eqB ?_ | with_reducible refine y_neB ?_ | with_reducible refine y_eqS ?_ | with_reducible refine y_neS ?_ | with_reducible refine y_isN ?_ | with_reducible refine y_isnN ?_ | with_reducible refine y_wget ?_ | with_reducible refine And.intro (len_ok (by with_unfolding_all exact rfl)) ?_))
    refine Y.mono (P := fun w S' => S' = S ∧ Pl c m w ∧ nameCnt us = if wordB w then 1 else 1000) ?_ ?_
    · refine y_if ?_
      (repeat (first | with_reducible refine w_seq ?_ | with_reducible refine w_set ?_ | with_reducible refine w_expr ?_ | with_reducible refine w_ret ?_ | with_reducible refine w_retN ?_ | with_reducible refine w_store ?_ | with_reducible refine w_nop ?_ | with_reducible refine w_for ?_ | with_reducible refine w_asg ?_ | with_reducible refine w_ct ?_ | with_reducible refine w_brk ?_ | with_reducible refine y_f2 ?_ | with_reducible refine y_C ?_ | with_reducible refine y_var (by with_unfolding_all exact rfl) ?_ | with_reducible refine y_f1 ?_ | with_reducible refine y_B ?_ | with_reducible refine y_unB ?_ | with_reducible refine y_ch ?_ | with_reducible refine y_tru ?_ | with_reducible refine y_tbl ?_ | with_reducible refine y_and ?_ | with_reducible refine y_or ?_ | with_reducible refine y_not ?_ | with_reducible refine y_andV ?_ | with_reducible refine y_notV ?_ | with_reducible refine y_nil ?_ | with_reducible refine y_cons ?_ | with_reducible refine y_tup ?_ | with_reducible refine y_lst ?_ | with_reducible refine y_val ?_ | with_reducible refine y_loc ?_ | with_reducible refine y_dval ?_ | with_reducible refine y_dloc ?_ | with_reducible refine y_ice ?_ | with_reducible refine y_oNone ?_ | with_reducible refine y_oSome ?_ | with_reducible refine y_sl ?_ | with_reducible refine y_A ?_ | with_reducible refine y_call ?_ | with_reducible refine y_M ?_ | with_reducible refine y_aComp ?_ | with_reducible refine y_rng1 ?_ | with_reducible refine y_over ?_ | with_reducible refine y_addI ?_ | with_reducible refine y_subI ?_ | with_reducible refine y_ltI ?_ | with_reducible refine y_leI ?_ | with_reducible refine y_gtI ?_ | with_reducible refine y_geI ?_ | with_reducible refine y_eqI ?_ | with_reducible refine y_neI ?_ | with_reducible refine y_eqB ?_ | with_reducible refine y_neB ?_ | with_reducible refine y_eqS ?_ | with_reducible refine y_neS ?_ | with_reducible refine y_isN ?_ | with_reducible refine y_isnN ?_ | with_reducible refine y_wget ?_ | with_reducible refine And.intro (len_ok (by with_unfolding_all exact rfl)) ?_))
      refine y_lenT ?_
      (repeat (first | with_reducible refine w_seq ?_ | with_reducible refine w_set ?_ | with_reducible refine w_expr ?_ | with_reducible refine w_ret ?_ | with_reducible refine w_retN ?_ | with_reducible refine w_store ?_ | with_reducible refine w_nop ?_ | with_reducible refine w_for ?_ | with_reducible refine w_asg ?_ | with_reducible refine w_ct ?_ | with_reducible refine w_brk ?_ | with_reducible refine y_f2 ?_ | with_reducible refine y_C ?_ | with_reducible refine y_var (by with_unfolding_all exact rfl) ?_ | with_reducible refine y_f1 ?_ | with_reducible refine y_B ?_ | with_reducible refine y_unB ?_ | with_reducible refine y_ch ?_ | with_reducible refine y_tru ?_ | with_reducible refine y_tbl ?_ | with_reducible refine y_and ?_ | with_reducible refine y_or ?_ | with_reducible refine y_not ?_ | with_reducible refine y_andV ?_ | with_reducible refine y_notV ?_ | with_reducible refine y_nil ?_ | with_reducible refine y_cons ?_ | with_reducible refine y_tup ?_ | with_reducible refine y_lst ?_ | with_reducible refine y_val ?_ | with_reducible refine y_loc ?_ | with_reducible refine y_dval ?_ | with_reducible refine y_dloc ?_ | with_reducible refine y_ice ?_ | with_reducible refine y_oNone ?_ | with_reducible refine y_oSome ?_ | with_reducible refine y_sl ?_ | with_reducible refine y_A ?_ | with_reducible refine y_call ?_ | with_reducible refine y_M ?_ | with_reducible refine y_aComp ?_ | with_reducible refine y_rng1 ?_ | with_reducible refine y_over ?_ | with_reducible refine y_addI ?_ | with_reducible refine y_subI ?_ | with_reducible refine y_ltI ?_ | with_reducible refine y_leI ?_ | with_reducible refine y_gtI ?_ | with_reducible refine y_geI ?_ | with_reducible refine y_eqI ?_ | with_reducible refine y_neI ?_ | with_reducible refine y_eqB ?_ | with_reducible refine y_neB ?_ | with_reducible refine y_eqS ?_ | with_reducible refine y_neS ?_ | with_reducible refine y_isN ?_ | with_reducible refine y_isnN ?_ | with_reducible refine y_wget ?_ | with_reducible refine And.intro (len_ok (by with_unfolding_all exact rfl)) ?_))
      refine ite_b (fun c2 => ?_) (fun c2 => ?_)
      · have c2 := of_decide_eq_true c2
        obtain ⟨w, rfl⟩ : ∃ w, us = [w] := by
          cases us with
          | nil => simp at c2
          | cons w r => cases r with
            | nil => exact ⟨w, rfl⟩
            | cons x r => simp at c2; omega
        (repeat (first | with_reducible refine w_seq ?_ | with_reducible refine w_set ?_ | with_reducible refine w_expr ?_ | with_reducible refine w_ret ?_ | with_reducible refine w_retN ?_ | with_reducible refine w_store ?_ | with_reducible refine w_nop ?_ | with_reducible refine w_for ?_ | with_reducible refine w_asg ?_ | with_reducible refine w_ct ?_ | with_reducible refine w_brk ?_ | with_reducible refine y_f2 ?_ | with_reducible refine y_C ?_ | with_reducible refine y_var (by with_unfolding_all exact rfl) ?_ | with_reducible refine y_f1 ?_ | with_reducible refine y_B ?_ | with_reducible refine y_unB ?_ | with_reducible refine y_ch ?_ | with_reducible refine y_tru ?_ | with_reducible refine y_tbl ?_ | with_reducible refine y_and ?_ | with_reducible refine y_or ?_ | with_reducible refine y_not ?_ | with_reducible refine y_andV ?_ | with_reducible refine y_notV ?_ | with_reducible refine y_nil ?_ | with_reducible refine y_cons ?_ | with_reducible refine y_tup ?_ | with_reducible refine y_lst ?_ | with_reducible refine y_val ?_ | with_reducible refine y_loc ?_ | with_reducible refine y_dval ?_ | with_reducible refine y_dloc ?_ | with_reducible refine y_ice ?_ | with_reducible refine y_oNone ?_ | with_reducible refine y_oSome ?_ | with_reducible refine y_sl ?_ | with_reducible refine y_A ?_ | with_reducible refine y_call ?_ | with_reducible refine y_M ?_ | with_reducible refine y_aComp ?_ | with_reducible refine y_rng1 ?_ | with_reducible refine y_over ?_ | with_reducible refine y_addI ?_ | with_reducible refine y_subI ?_ | with_reducible refine y_ltI ?_ | with_reducible refine y_leI ?_ | with_reducible refine y_gtI ?_ | with_reducible refine y_geI ?_ | with_reducible refine y_eqI ?_ | with_reducible refine y_neI ?_ | with_reducible refine y_eqB ?_ | with_reducible refine y_neB ?_ | with_reducible refine y_eqS ?_ | with_reducible refine y_neS ?_ | with_reducible refine y_isN ?_ | with_reducible refine y_isnN ?_ | with_reducible refine y_wget ?_ | with_reducible refine And.intro (len_ok (by with_unfolding_all exact rfl)) ?_))
        refine y_ixT1 ?_
        exact ⟨rfl, pz w List.mem_cons_self, rfl⟩
      · have c2 := of_decide_eq_false c2
        (repeat (first | with_reducible refine w_seq ?_ | with_reducible refine w_set ?_ | with_reducible refine w_expr ?_ | with_reducible refine w_ret ?_ | with_reducible refine w_retN ?_ | with_reducible refine w_store ?_ | with_reducible refine w_nop ?_ | with_reducible refine w_for ?_ | with_reducible refine w_asg ?_ | with_reducible refine w_ct ?_ | with_reducible refine w_brk ?_ | with_reducible refine y_f2 ?_ | with_reducible refine y_C ?_ | with_reducible refine y_var (by with_unfolding_all exact rfl) ?_ | with_reducible refine y_f1 ?_ | with_reducible refine y_B ?_ | with_reducible refine y_unB ?_ | with_reducible refine y_ch ?_ | with_reducible refine y_tru ?_ | with_reducible refine y_tbl ?_ | with_reducible refine y_and ?_ | with_reducible refine y_or ?_ | with_reducible refine y_not ?_ | with_reducible refine y_andV ?_ | with_reducible refine y_notV ?_ | with_reducible refine y_nil ?_ | with_reducible refine y_cons ?_ | with_reducible refine y_tup ?_ | with_reducible refine y_lst ?_ | with_reducible refine y_val ?_ | with_reducible refine y_loc ?_ | with_reducible refine y_dval ?_ | with_reducible refine y_dloc ?_ | with_reducible refine y_ice ?_ | with_reducible refine y_oNone ?_ | with_reducible refine y_oSome ?_ | with_reducible refine y_sl ?_ | with_reducible refine y_A ?_ | with_reducible refine y_call ?_ | with_reducible refine y_M ?_ | with_reducible refine y_aComp ?_ | with_reducible refine y_rng1 ?_ | with_reducible refine y_over ?_ | with_reducible refine y_addI ?_ | with_reducible refine y_subI ?_ | with_reducible refine y_ltI ?_ | with_reducible refine y_leI ?_ | with_reducible refine y_gtI ?_ | with_reducible refine y_geI ?_ | with_reducible refine y_eqI ?_ | with_reducible refine y_neI ?_ | with_reducible refine y_eqB ?_ | with_reducible refine y_neB ?_ | with_reducible refine y_eqS ?_ | with_reducible refine y_neS ?_ | with_reducible refine y_isN ?_ | with_reducible refine y_isnN ?_ | with_reducible refine y_wget ?_ | with_reducible refine And.intro (len_ok (by with_unfolding_all exact rfl)) ?_))
        refine ⟨rfl, by cases m <;> trivial, ?_⟩
        rw [name_bad fun e => c2 (by rw [List.length_cons, e]; rfl)]
        rfl
    rintro w S2 ⟨eS, pw, hw⟩
    subst eS
    (repeat (first | with_reducible refine w_seq ?_ | with_reducible refine w_set ?_ | with_reducible refine w_expr ?_ | with_reducible refine w_ret ?_ | with_reducible refine w_retN ?_ | with_reducible refine w_store ?_ | with_reducible refine w_nop ?_ | with_reducible refine w_for ?_ | with_reducible refine w_asg ?_ | with_reducible refine w_ct ?_ | with_reducible refine w_brk ?_ | with_reducible refine y_f2 ?_ | with_reducible refine y_C ?_ | with_reducible refine y_var (by with_unfolding_all exact rfl) ?_ | with_reducible refine y_f1 ?_ | with_reducible refine y_B ?_ | with_reducible refine y_unB ?_ | with_reducible refine y_ch ?_ | with_reducible refine y_tru ?_ | with_reducible refine y_tbl ?_ | with_reducible refine y_and ?_ | with_reducible refine y_or ?_ | with_reducible refine y_not ?_ | with_reducible refine y_andV ?_ | with_reducible refine y_notV ?_ | with_reducible refine y_nil ?_ | with_reducible refine y_cons ?_ | with_reducible refine y_tup ?_ | with_reducible refine y_lst ?_ | with_reducible refine y_val ?_ | with_reducible refine y_loc ?_ | with_reducible refine y_dval ?_ | with_reducible refine y_dloc ?_ | with_reducible refine y_ice ?_ | with_reducible refine y_oNone ?_ | with_reducible refine y_oSome ?_ | with_reducible refine y_sl ?_ | with_reducible refine y_A ?_ | with_reducible refine y_call ?_ | with_reducible refine y_M ?_ | with_reducible refine y_aComp ?_ | with_reducible refine y_rng1 ?_ | with_reducible refine y_over ?_ | with_reducible refine y_addI ?_ | with_reducible refine y_subI ?_ | with_reducible refine y_ltI ?_ | with_reducible refine y_leI ?_ | with_reducible refine y_gtI ?_ | with_reducible refine y_geI ?_ | with_reducible refine y_eqI ?_ | with_reducible refine y_neI ?_ | with_reducible refine y_eqB ?_ | with_reducible refine y_neB ?_ | with_reducible refine y_eqS ?_ | with_reducible refine y_neS ?_ | with_reducible refine y_isN ?_ | with_reducible refine y_isnN ?_ | with_reducible refine y_wget ?_ | with_reducible refine And.intro (len_ok (by with_unfolding_all exact rfl)) ?_))
    refine w_ifP (fun b => (b = true → wordB w = false) ∧ (b = false → ∃ z, w = .str z ∧ 1 ≤ z.length ∧ z.length ≤ 8 ∧ decide (z ∈ w7) = false)) ?_ (fun h => ?_) (fun h => ?_)
    · (repeat (first | with_reducible refine w_seq ?_ | with_reducible refine w_set ?_ | with_reducible refine w_expr ?_ | with_reducible refine w_ret ?_ | with_reducible refine w_retN ?_ | with_reducible refine w_store ?_ | with_reducible refine w_nop ?_ | with_reducible refine w_for ?_ | with_reducible refine w_asg ?_ | with_reducible refine w_ct ?_ | with_reducible refine w_brk ?_ | with_reducible refine y_f2 ?_ | with_reducible refine y_C ?_ | with_reducible refine y_var (by with_unfolding_all exact rfl) ?_ | with_reducible refine y_f1 ?_ | with_reducible refine y_B ?_ | with_reducible refine y_unB ?_ | with_reducible refine y_ch ?_ | with_reducible refine y_tru ?_ | with_reducible refine y_tbl ?_ | with_reducible refine y_and ?_ | with_reducible refine y_or ?_ | with_reducible refine y_not ?_ | with_reducible refine y_andV ?_ | with_reducible refine y_notV ?_ | with_reducible refine y_nil ?_ | with_reducible refine y_cons ?_ | with_reducible refine y_tup ?_ | with_reducible refine y_lst ?_ | with_reducible refine y_val ?_ | with_reducible refine y_loc ?_ | with_reducible refine y_dval ?_ | with_reducible refine y_dloc ?_ | with_reducible refine y_ice ?_ | with_reducible refine y_oNone ?_ | with_reducible refine y_oSome ?_ | with_reducible refine y_sl ?_ | with_reducible refine y_A ?_ | with_reducible refine y_call ?_ | with_reducible refine y_M ?_ | with_reducible refine y_aComp ?_ | with_reducible refine y_rng1 ?_ | with_reducible refine y_over ?_ | with_reducible refine y_addI ?_ | with_reducible refine y_subI ?_ | with_reducible refine y_ltI ?_ | with_reducible refine y_leI ?_ | with_reducible refine y_gtI ?_ | with_reducible refine y_geI ?_ | with_reducible refine y_eqI ?_ | with_reducible refine y_neI ?_ | with_reducible refine y_eqB ?_ | with_reducible refine y_neB ?_ | with_reducible refine y_eqS ?_ | with_reducible refine y_neS ?_ | with_reducible refine y_isN ?_ | with_reducible refine y_isnN ?_ | with_reducible refine y_wget ?_ | with_reducible refine And.intro (len_ok (by with_unfolding_all exact rfl)) ?_))
      refine y_isS pw ?_
      (repeat (first | with_reducible refine w_seq ?_ | with_reducible refine w_set ?_ | with_reducible refine w_expr ?_ | with_reducible refine w_ret ?_ | with_reducible refine w_retN ?_ | with_reducible refine w_store ?_ | with_reducible refine w_nop ?_ | with_reducible refine w_for ?_ | with_reducible refine w_asg ?_ | with_reducible refine w_ct ?_ | with_reducible refine w_brk ?_ | with_reducible refine y_f2 ?_ | with_reducible refine y_C ?_ | with_reducible refine y_var (by with_unfolding_all exact rfl) ?_ | with_reducible refine y_f1 ?_ | with_reducible refine y_B ?_ | with_reducible refine y_unB ?_ | with_reducible refine y_ch ?_ | with_reducible refine y_tru ?_ | with_reducible refine y_tbl ?_ | with_reducible refine y_and ?_ | with_reducible refine y_or ?_ | with_reducible refine y_not ?_ | with_reducible refine y_andV ?_ | with_reducible refine y_notV ?_ | with_reducible refine y_nil ?_ | with_reducible refine y_cons ?_ | with_reducible refine y_tup ?_ | with_reducible refine y_lst ?_ | with_reducible refine y_val ?_ | with_reducible refine y_loc ?_ | with_reducible refine y_dval ?_ | with_reducible refine y_dloc ?_ | with_reducible refine y_ice ?_ | with_reducible refine y_oNone ?_ | with_reducible refine y_oSome ?_ | with_reducible refine y_sl ?_ | with_reducible refine y_A ?_ | with_reducible refine y_call ?_ | with_reducible refine y_M ?_ | with_reducible refine y_aComp ?_ | with_reducible refine y_rng1 ?_ | with_reducible refine y_over ?_ | with_reducible refine y_addI ?_ | with_reducible refine y_subI ?_ | with_reducible refine y_ltI ?_ | with_reducible refine y_leI ?_ | with_reducible refine y_gtI ?_ | with_reducible refine y_geI ?_ | with_reducible refine y_eqI ?_ | with_reducible refine y_neI ?_ | with_reducible refine y_eqB ?_ | with_reducible refine y_neB ?_ | with_reducible refine y_eqS ?_ | with_reducible refine y_neS ?_ | with_reducible refine y_isN ?_ | with_reducible refine y_isnN ?_ | with_reducible refine y_wget ?_ | with_reducible refine And.intro (len_ok (by with_unfolding_all exact rfl)) ?_))
      cases w with
      | str z =>
        have hz : z.length ≤ sizeLine := by cases m <;> (unfold Pl at pw; exact pw.2)
        refine ite_b (fun c2 => by cases c2) (fun _ => ?_)
        refine y_or ?_
        refine Y.mono (P := fun b S' => S' = S2 ∧ b = !(decide (1 ≤ z.length) && decide (z.length ≤ 8))) ?_ ?_
        · (repeat (first | with_reducible refine w_seq ?_ | with_reducible refine w_set ?_ | with_reducible refine w_expr ?_ | with_reducible refine w_ret ?_ | with_reducible refine w_retN ?_ | with_reducible refine w_store ?_ | with_reducible refine w_nop ?_ | with_reducible refine w_for ?_ | with_reducible refine w_asg ?_ | with_reducible refine w_ct ?_ | with_reducible refine w_brk ?_ | with_reducible refine y_f2 ?_ | with_reducible refine y_C ?_ | with_reducible refine y_var (by with_unfolding_all exact rfl) ?_ | with_reducible refine y_f1 ?_ | with_reducible refine y_B ?_ | with_reducible refine y_unB ?_ | with_reducible refine y_ch ?_ | with_reducible refine y_tru ?_ | with_reducible refine y_tbl ?_ | with_reducible refine y_and ?_ | with_reducible refine y_or ?_ | with_reducible refine y_not ?_ | with_reducible refine y_andV ?_ | with_reducible refine y_notV ?_ | with_reducible refine y_nil ?_ | with_reducible refine y_cons ?_ | with_reducible refine y_tup ?_ | with_reducible refine y_lst ?_ | with_reducible refine y_val ?_ | with_reducible refine y_loc ?_ | with_reducible refine y_dval ?_ | with_reducible refine y_dloc ?_ | with_reducible refine y_ice ?_ | with_reducible refine y_oNone ?_ | with_reducible refine y_oSome ?_ | with_reducible refine y_sl ?_ | with_reducible refine y_A ?_ | with_reducible refine y_call ?_ | with_reducible refine y_M ?_ | with_reducible refine y_aComp ?_ | with_reducible refine y_rng1 ?_ | with_reducible refine y_over ?_ | with_reducible refine y_addI ?_ | with_reducible refine y_subI ?_ | with_reducible refine y_ltI ?_ | with_reducible refine y_leI ?_ | with_reducible refine y_gtI ?_ | with_reducible refine y_geI ?_ | with_reducible refine y_eqI ?_ | with_reducible refine y_neI ?_ | with_reducible refine y_eqB ?_ | with_reducible refine y_neB ?_ | with_reducible refine y_eqS ?_ | with_reducible refine y_neS ?_ | with_reducible refine y_isN ?_ | with_reducible refine y_isnN ?_ | with_reducible refine y_wget ?_ | with_reducible refine And.intro (len_ok (by with_unfolding_all exact rfl)) ?_))
          refine y_lenZ hz ?_
          (repeat (first | with_reducible refine w_seq ?_ | with_reducible refine w_set ?_ | with_reducible refine w_expr ?_ | with_reducible refine w_ret ?_ | with_reducible refine w_retN ?_ | with_reducible refine w_store ?_ | with_reducible refine w_nop ?_ | with_reducible refine w_for ?_ | with_reducible refine w_asg ?_ | with_reducible refine w_ct ?_ | with_reducible refine w_brk ?_ | with_reducible refine y_f2 ?_ | with_reducible refine y_C ?_ | with_reducible refine y_var (by with_unfolding_all exact rfl) ?_ | with_reducible refine y_f1 ?_ | with_reducible refine y_B ?_ | with_reducible refine y_unB ?_ | with_reducible refine y_ch ?_ | with_reducible refine y_tru ?_ | with_reducible refine y_tbl ?_ | with_reducible refine y_and ?_ | with_reducible refine y_or ?_ | with_reducible refine y_not ?_ | with_reducible refine y_andV ?_ | with_reducible refine y_notV ?_ | with_reducible refine y_nil ?_ | with_reducible refine y_cons ?_ | with_reducible refine y_tup ?_ | with_reducible refine y_lst ?_ | with_reducible refine y_val ?_ | with_reducible refine y_loc ?_ | with_reducible refine y_dval ?_ | with_reducible refine y_dloc ?_ | with_reducible refine y_ice ?_ | with_reducible refine y_oNone ?_ | with_reducible refine y_oSome ?_ | with_reducible refine y_sl ?_ | with_reducible refine y_A ?_ | with_reducible refine y_call ?_ | with_reducible refine y_M ?_ | with_reducible refine y_aComp ?_ | with_reducible refine y_rng1 ?_ | with_reducible refine y_over ?_ | with_reducible refine y_addI ?_ | with_reducible refine y_subI ?_ | with_reducible refine y_ltI ?_ | with_reducible refine y_leI ?_ | with_reducible refine y_gtI ?_ | with_reducible refine y_geI ?_ | with_reducible refine y_eqI ?_ | with_reducible refine y_neI ?_ | with_reducible refine y_eqB ?_ | with_reducible refine y_neB ?_ | with_reducible refine y_eqS ?_ | with_reducible refine y_neS ?_ | with_reducible refine y_isN ?_ | with_reducible refine y_isnN ?_ | with_reducible refine y_wget ?_ | with_reducible refine And.intro (len_ok (by with_unfolding_all exact rfl)) ?_))
          refine ite_b (fun c2 => ?_) (fun c2 => ?_)
          · (repeat (first | with_reducible refine w_seq ?_ | with_reducible refine w_set ?_ | with_reducible refine w_expr ?_ | with_reducible refine w_ret ?_ | with_reducible refine w_retN ?_ | with_reducible refine w_store ?_ | with_reducible refine w_nop ?_ | with_reducible refine w_for ?_ | with_reducible refine w_asg ?_ | with_reducible refine w_ct ?_ | with_reducible refine w_brk ?_ | with_reducible refine y_f2 ?_ | with_reducible refine y_C ?_ | with_reducible refine y_var (by with_unfolding_all exact rfl) ?_ | with_reducible refine y_f1 ?_ | with_reducible refine y_B ?_ | with_reducible refine y_unB ?_ | with_reducible refine y_ch ?_ | with_reducible refine y_tru ?_ | with_reducible refine y_tbl ?_ | with_reducible refine y_and ?_ | with_reducible refine y_or ?_ | with_reducible refine y_not ?_ | with_reducible refine y_andV ?_ | with_reducible refine y_notV ?_ | with_reducible refine y_nil ?_ | with_reducible refine y_cons ?_ | with_reducible refine y_tup ?_ | with_reducible refine y_lst ?_ | with_reducible refine y_val ?_ | with_reducible refine y_loc ?_ | with_reducible refine y_dval ?_ | with_reducible refine y_dloc ?_ | with_reducible refine y_ice ?_ | with_reducible refine y_oNone ?_ | with_reducible refine y_oSome ?_ | with_reducible refine y_sl ?_ | with_reducible refine y_A ?_ | with_reducible refine y_call ?_ | with_reducible refine y_M ?_ | with_reducible refine y_aComp ?_ | with_reducible refine y_rng1 ?_ | with_reducible refine y_over ?_ | with_reducible refine y_addI ?_ | with_reducible refine y_subI ?_ | with_reducible refine y_ltI ?_ | with_reducible refine y_leI ?_ | with_reducible refine y_gtI ?_ | with_reducible refine y_geI ?_ | with_reducible refine y_eqI ?_ | with_reducible refine y_neI ?_ | with_reducible refine y_eqB ?_ | with_reducible refine y_neB ?_ | with_reducible refine y_eqS ?_ | with_reducible refine y_neS ?_ | with_reducible refine y_isN ?_ | with_reducible refine y_isnN ?_ | with_reducible refine y_wget ?_ | with_reducible refine And.intro (len_ok (by with_unfolding_all exact rfl)) ?_))
            refine ⟨rfl, ?_⟩
            have c2 := of_decide_eq_true c2
            rw [decide_eq_true (by omega : 1 ≤ z.length), Bool.true_and]
            congr 1
            exact decide_eq_decide.mpr (by omega)
          · have c2 := of_decide_eq_false c2
            refine ⟨rfl, ?_⟩
            rw [decide_eq_false (by omega : ¬ 1 ≤ z.length)]
            rfl
        rintro b _ ⟨rfl, rfl⟩
        refine ite_b (fun c2 => ?_) (fun c2 => ?_)
        · refine ⟨rfl, fun _ => ?_, fun h => by cases h⟩
          rw [wordB_str]
          cases h8 : decide (1 ≤ z.length) && decide (z.length ≤ 8) with
          | true => rw [h8] at c2; cases c2
          | false => rfl
        · have c2 : (decide (1 ≤ z.length) && decide (z.length ≤ 8)) = true := by
            cases h8 : decide (1 ≤ z.length) && decide (z.length ≤ 8) with
            | true => rfl
            | false => rw [h8] at c2; cases c2
          (repeat (first | with_reducible refine w_seq ?_ | with_reducible refine w_set ?_ | with_reducible refine w_expr ?_ | with_reducible refine w_ret ?_ | with_reducible refine w_retN ?_ | with_reducible refine w_store ?_ | with_reducible refine w_nop ?_ | with_reducible refine w_for ?_ | with_reducible refine w_asg ?_ | with_reducible refine w_ct ?_ | with_reducible refine w_brk ?_ | with_reducible refine y_f2 ?_ | with_reducible refine y_C ?_ | with_reducible refine y_var (by with_unfolding_all exact rfl) ?_ | with_reducible refine y_f1 ?_ | with_reducible refine y_B ?_ | with_reducible refine y_unB ?_ | with_reducible refine y_ch ?_ | with_reducible refine y_tru ?_ | with_reducible refine y_tbl ?_ | with_reducible refine y_and ?_ | with_reducible refine y_or ?_ | with_reducible refine y_not ?_ | with_reducible refine y_andV ?_ | with_reducible refine y_notV ?_ | with_reducible refine y_nil ?_ | with_reducible refine y_cons ?_ | with_reducible refine y_tup ?_ | with_reducible refine y_lst ?_ | with_reducible refine y_val ?_ | with_reducible refine y_loc ?_ | with_reducible refine y_dval ?_ | with_reducible refine y_dloc ?_ | with_reducible refine y_ice ?_ | with_reducible refine y_oNone ?_ | with_reducible refine y_oSome ?_ | with_reducible refine y_sl ?_ | with_reducible refine y_A ?_ | with_reducible refine y_call ?_ | with_reducible refine y_M ?_ | with_reducible refine y_aComp ?_ | with_reducible refine y_rng1 ?_ | with_reducible refine y_over ?_ | with_reducible refine y_addI ?_ | with_reducible refine y_subI ?_ | with_reducible refine y_ltI ?_ | with_reducible refine y_leI ?_ | with_reducible refine y_gtI ?_ | with_reducible refine y_geI ?_ | with_reducible refine y_eqI ?_ | with_reducible refine y_neI ?_ | with_reducible refine y_eqB ?_ | with_reducible refine y_neB ?_ | with_reducible refine y_eqS ?_ | with_reducible refine y_neS ?_ | with_reducible refine y_isN ?_ | with_reducible refine y_isnN ?_ | with_reducible refine y_wget ?_ | with_reducible refine And.intro (len_ok (by with_unfolding_all exact rfl)) ?_))
          refine y_inV (ws := w7) ?_
          (repeat (first | with_reducible refine w_seq ?_ | with_reducible refine w_set ?_ | with_reducible refine w_expr ?_ | with_reducible refine w_ret ?_ | with_reducible refine w_retN ?_ | with_reducible refine w_store ?_ | with_reducible refine w_nop ?_ | with_reducible refine w_for ?_ | with_reducible refine w_asg ?_ | with_reducible refine w_ct ?_ | with_reducible refine w_brk ?_ | with_reducible refine y_f2 ?_ | with_reducible refine y_C ?_ | with_reducible refine y_var (by with_unfolding_all exact rfl) ?_ | with_reducible refine y_f1 ?_ | with_reducible refine y_B ?_ | with_reducible refine y_unB ?_ | with_reducible refine y_ch ?_ | with_reducible refine y_tru ?_ | with_reducible refine y_tbl ?_ | with_reducible refine y_and ?_ | with_reducible refine y_or ?_ | with_reducible refine y_not ?_ | with_reducible refine y_andV ?_ | with_reducible refine y_notV ?_ | with_reducible refine y_nil ?_ | with_reducible refine y_cons ?_ | with_reducible refine y_tup ?_ | with_reducible refine y_lst ?_ | with_reducible refine y_val ?_ | with_reducible refine y_loc ?_ | with_reducible refine y_dval ?_ | with_reducible refine y_dloc ?_ | with_reducible refine y_ice ?_ | with_reducible refine y_oNone ?_ | with_reducible refine y_oSome ?_ | with_reducible refine y_sl ?_ | with_reducible refine y_A ?_ | with_reducible refine y_call ?_ | with_reducible refine y_M ?_ | with_reducible refine y_aComp ?_ | with_reducible refine y_rng1 ?_ | with_reducible refine y_over ?_ | with_reducible refine y_addI ?_ | with_reducible refine y_subI ?_ | with_reducible refine y_ltI ?_ | with_reducible refine y_leI ?_ | with_reducible refine y_gtI ?_ | with_reducible refine y_geI ?_ | with_reducible refine y_eqI ?_ | with_reducible refine y_neI ?_ | with_reducible refine y_eqB ?_ | with_reducible refine y_neB ?_ | with_reducible refine y_eqS ?_ | with_reducible refine y_neS ?_ | with_reducible refine y_isN ?_ | with_reducible refine y_isnN ?_ | with_reducible refine y_wget ?_ | with_reducible refine And.intro (len_ok (by with_unfolding_all exact rfl)) ?_))
          refine ⟨rfl, fun h => ?_, fun h => ⟨z, rfl, ?_⟩⟩
          · rw [wordB_str, h, Bool.not_true, Bool.and_false]
          · rw [Bool.and_eq_true] at c2
            exact ⟨of_decide_eq_true c2.1, of_decide_eq_true c2.2, h⟩
      | _ => exact ⟨rfl, fun _ => rfl, fun h => by cases h⟩
    · (repeat (first | with_reducible refine w_seq ?_ | with_reducible refine w_set ?_ | with_reducible refine w_expr ?_ | with_reducible refine w_ret ?_ | with_reducible refine w_retN ?_ | with_reducible refine w_store ?_ | with_reducible refine w_nop ?_ | with_reducible refine w_for ?_ | with_reducible refine w_asg ?_ | with_reducible refine w_ct ?_ | with_reducible refine w_brk ?_ | with_reducible refine y_f2 ?_ | with_reducible refine y_C ?_ | with_reducible refine y_var (by with_unfolding_all exact rfl) ?_ | with_reducible refine y_f1 ?_ | with_reducible refine y_B ?_ | with_reducible refine y_unB ?_ | with_reducible refine y_ch ?_ | with_reducible refine y_tru ?_ | with_reducible refine y_tbl ?_ | with_reducible refine y_and ?_ | with_reducible refine y_or ?_ | with_reducible refine y_not ?_ | with_reducible refine y_andV ?_ | with_reducible refine y_notV ?_ | with_reducible refine y_nil ?_ | with_reducible refine y_cons ?_ | with_reducible refine y_tup ?_ | with_reducible refine y_lst ?_ | with_reducible refine y_val ?_ | with_reducible refine y_loc ?_ | with_reducible refine y_dval ?_ | with_reducible refine y_dloc ?_ | with_reducible refine y_ice ?_ | with_reducible refine y_oNone ?_ | with_reducible refine y_oSome ?_ | with_reducible refine y_sl ?_ | with_reducible refine y_A ?_ | with_reducible refine y_call ?_ | with_reducible refine y_M ?_ | with_reducible refine y_aComp ?_ | with_reducible refine y_rng1 ?_ | with_reducible refine y_over ?_ | with_reducible refine y_addI ?_ | with_reducible refine y_subI ?_ | with_reducible refine y_ltI ?_ | with_reducible refine y_leI ?_ | with_reducible refine y_gtI ?_ | with_reducible refine y_geI ?_ | with_reducible refine y_eqI ?_ | with_reducible refine y_neI ?_ | with_reducible refine y_eqB ?_ | with_reducible refine y_neB ?_ | with_reducible refine y_eqS ?_ | with_reducible refine y_neS ?_ | with_reducible refine y_isN ?_ | with_reducible refine y_isnN ?_ | with_reducible refine y_wget ?_ | with_reducible refine And.intro (len_ok (by with_unfolding_all exact rfl)) ?_))
      refine ⟨rfl, ?_⟩
      rw [cnt_name, hw, h.1 rfl]
      rfl
    · obtain ⟨z, rfl, h1, h8, h7⟩ := h.2 rfl
      (repeat (first | with_reducible refine w_seq ?_ | with_reducible refine w_set ?_ | with_reducible refine w_expr ?_ | with_reducible refine w_ret ?_ | with_reducible refine w_retN ?_ | with_reducible refine w_store ?_ | with_reducible refine w_nop ?_ | with_reducible refine w_for ?_ | with_reducible refine w_asg ?_ | with_reducible refine w_ct ?_ | with_reducible refine w_brk ?_ | with_reducible refine y_f2 ?_ | with_reducible refine y_C ?_ | with_reducible refine y_var (by with_unfolding_all exact rfl) ?_ | with_reducible refine y_f1 ?_ | with_reducible refine y_B ?_ | with_reducible refine y_unB ?_ | with_reducible refine y_ch ?_ | with_reducible refine y_tru ?_ | with_reducible refine y_tbl ?_ | with_reducible refine y_and ?_ | with_reducible refine y_or ?_ | with_reducible refine y_not ?_ | with_reducible refine y_andV ?_ | with_reducible refine y_notV ?_ | with_reducible refine y_nil ?_ | with_reducible refine y_cons ?_ | with_reducible refine y_tup ?_ | with_reducible refine y_lst ?_ | with_reducible refine y_val ?_ | with_reducible refine y_loc ?_ | with_reducible refine y_dval ?_ | with_reducible refine y_dloc ?_ | with_reducible refine y_ice ?_ | with_reducible refine y_oNone ?_ | with_reducible refine y_oSome ?_ | with_reducible refine y_sl ?_ | with_reducible refine y_A ?_ | with_reducible refine y_call ?_ | with_reducible refine y_M ?_ | with_reducible refine y_aComp ?_ | with_reducible refine y_rng1 ?_ | with_reducible refine y_over ?_ | with_reducible refine y_addI ?_ | with_reducible refine y_subI ?_ | with_reducible refine y_ltI ?_ | with_reducible refine y_leI ?_ | with_reducible refine y_gtI ?_ | with_reducible refine y_geI ?_ | with_reducible refine y_eqI ?_ | with_reducible refine y_neI ?_ | with_reducible refine y_eqB ?_ | with_reducible refine y_neB ?_ | with_reducible refine y_eqS ?_ | with_reducible refine y_neS ?_ | with_reducible refine y_isN ?_ | with_reducible refine y_isnN ?_ | with_reducible refine y_wget ?_ | with_reducible refine And.intro (len_ok (by with_unfolding_all exact rfl)) ?_))
      refine y_if ?_
      (repeat (first | with_reducible refine w_seq ?_ | with_reducible refine w_set ?_ | with_reducible refine w_expr ?_ | with_reducible refine w_ret ?_ | with_reducible refine w_retN ?_ | with_reducible refine w_store ?_ | with_reducible refine w_nop ?_ | with_reducible refine w_for ?_ | with_reducible refine w_asg ?_ | with_reducible refine w_ct ?_ | with_reducible refine w_brk ?_ | with_reducible refine y_f2 ?_ | with_reducible refine y_C ?_ | with_reducible refine y_var (by with_unfolding_all exact rfl) ?_ | with_reducible refine y_f1 ?_ | with_reducible refine y_B ?_ | with_reducible refine y_unB ?_ | with_reducible refine y_ch ?_ | with_reducible refine y_tru ?_ | with_reducible refine y_tbl ?_ | with_reducible refine y_and ?_ | with_reducible refine y_or ?_ | with_reducible refine y_not ?_ | with_reducible refine y_andV ?_ | with_reducible refine y_notV ?_ | with_reducible refine y_nil ?_ | with_reducible refine y_cons ?_ | with_reducible refine y_tup ?_ | with_reducible refine y_lst ?_ | with_reducible refine y_val ?_ | with_reducible refine y_loc ?_ | with_reducible refine y_dval ?_ | with_reducible refine y_dloc ?_ | with_reducible refine y_ice ?_ | with_reducible refine y_oNone ?_ | with_reducible refine y_oSome ?_ | with_reducible refine y_sl ?_ | with_reducible refine y_A ?_ | with_reducible refine y_call ?_ | with_reducible refine y_M ?_ | with_reducible refine y_aComp ?_ | with_reducible refine y_rng1 ?_ | with_reducible refine y_over ?_ | with_reducible refine y_addI ?_ | with_reducible refine y_subI ?_ | with_reducible refine y_ltI ?_ | with_reducible refine y_leI ?_ | with_reducible refine y_gtI ?_ | with_reducible refine y_geI ?_ | with_reducible refine y_eqI ?_ | with_reducible refine y_neI ?_ | with_reducible refine y_eqB ?_ | with_reducible refine y_neB ?_ | with_reducible refine y_eqS ?_ | with_reducible refine y_neS ?_ | with_reducible refine y_isN ?_ | with_reducible refine y_isnN ?_ | with_reducible refine y_wget ?_ | with_reducible refine And.intro (len_ok (by with_unfolding_all exact rfl)) ?_))
      refine ⟨_, rfl, ?_⟩
      refine y_compM (fun v => match v with | .str c => .bl (inStr c "abcdefghijklmnopqrstuvwxyz") | v => v) _ _ ?_ (by rw [List.length_map, sizeL, Array.length_toList]; show 0 + z.length ≤ _; omega) ?_
      · intro v hv
        obtain ⟨c, hc, rfl⟩ := List.mem_map.mp hv
        refine ⟨_, rfl, ?_⟩
        (repeat (first | with_reducible refine w_seq ?_ | with_reducible refine w_set ?_ | with_reducible refine w_expr ?_ | with_reducible refine w_ret ?_ | with_reducible refine w_retN ?_ | with_reducible refine w_store ?_ | with_reducible refine w_nop ?_ | with_reducible refine w_for ?_ | with_reducible refine w_asg ?_ | with_reducible refine w_ct ?_ | with_reducible refine w_brk ?_ | with_reducible refine y_f2 ?_ | with_reducible refine y_C ?_ | with_reducible refine y_var (by with_unfolding_all exact rfl) ?_ | with_reducible refine y_f1 ?_ | with_reducible refine y_B ?_ | with_reducible refine y_unB ?_ | with_reducible refine y_ch ?_ | with_reducible refine y_tru ?_ | with_reducible refine y_tbl ?_ | with_reducible refine y_and ?_ | with_reducible refine y_or ?_ | with_reducible refine y_not ?_ | with_reducible refine y_andV ?_ | with_reducible refine y_notV ?_ | with_reducible refine y_nil ?_ | with_reducible refine y_cons ?_ | with_reducible refine y_tup ?_ | with_reducible refine y_lst ?_ | with_reducible refine y_val ?_ | with_reducible refine y_loc ?_ | with_reducible refine y_dval ?_ | with_reducible refine y_dloc ?_ | with_reducible refine y_ice ?_ | with_reducible refine y_oNone ?_ | with_reducible refine y_oSome ?_ | with_reducible refine y_sl ?_ | with_reducible refine y_A ?_ | with_reducible refine y_call ?_ | with_reducible refine y_M ?_ | with_reducible refine y_aComp ?_ | with_reducible refine y_rng1 ?_ | with_reducible refine y_over ?_ | with_reducible refine y_addI ?_ | with_reducible refine y_subI ?_ | with_reducible refine y_ltI ?_ | with_reducible refine y_leI ?_ | with_reducible refine y_gtI ?_ | with_reducible refine y_geI ?_ | with_reducible refine y_eqI ?_ | with_reducible refine y_neI ?_ | with_reducible refine y_eqB ?_ | with_reducible refine y_neB ?_ | with_reducible refine y_eqS ?_ | with_reducible refine y_neS ?_ | with_reducible refine y_isN ?_ | with_reducible refine y_isnN ?_ | with_reducible refine y_wget ?_ | with_reducible refine And.intro (len_ok (by with_unfolding_all exact rfl)) ?_))
        refine y_inStr ?_
        exact ⟨rfl, rfl⟩
      (repeat (first | with_reducible refine w_seq ?_ | with_reducible refine w_set ?_ | with_reducible refine w_expr ?_ | with_reducible refine w_ret ?_ | with_reducible refine w_retN ?_ | with_reducible refine w_store ?_ | with_reducible refine w_nop ?_ | with_reducible refine w_for ?_ | with_reducible refine w_asg ?_ | with_reducible refine w_ct ?_ | with_reducible refine w_brk ?_ | with_reducible refine y_f2 ?_ | with_reducible refine y_C ?_ | with_reducible refine y_var (by with_unfolding_all exact rfl) ?_ | with_reducible refine y_f1 ?_ | with_reducible refine y_B ?_ | with_reducible refine y_unB ?_ | with_reducible refine y_ch ?_ | with_reducible refine y_tru ?_ | with_reducible refine y_tbl ?_ | with_reducible refine y_and ?_ | with_reducible refine y_or ?_ | with_reducible refine y_not ?_ | with_reducible refine y_andV ?_ | with_reducible refine y_notV ?_ | with_reducible refine y_nil ?_ | with_reducible refine y_cons ?_ | with_reducible refine y_tup ?_ | with_reducible refine y_lst ?_ | with_reducible refine y_val ?_ | with_reducible refine y_loc ?_ | with_reducible refine y_dval ?_ | with_reducible refine y_dloc ?_ | with_reducible refine y_ice ?_ | with_reducible refine y_oNone ?_ | with_reducible refine y_oSome ?_ | with_reducible refine y_sl ?_ | with_reducible refine y_A ?_ | with_reducible refine y_call ?_ | with_reducible refine y_M ?_ | with_reducible refine y_aComp ?_ | with_reducible refine y_rng1 ?_ | with_reducible refine y_over ?_ | with_reducible refine y_addI ?_ | with_reducible refine y_subI ?_ | with_reducible refine y_ltI ?_ | with_reducible refine y_leI ?_ | with_reducible refine y_gtI ?_ | with_reducible refine y_geI ?_ | with_reducible refine y_eqI ?_ | with_reducible refine y_neI ?_ | with_reducible refine y_eqB ?_ | with_reducible refine y_neB ?_ | with_reducible refine y_eqS ?_ | with_reducible refine y_neS ?_ | with_reducible refine y_isN ?_ | with_reducible refine y_isnN ?_ | with_reducible refine y_wget ?_ | with_reducible refine And.intro (len_ok (by with_unfolding_all exact rfl)) ?_))
      rw [List.nil_append, List.map_map]
      refine all_map (fun c => inStr ⟨#[c]⟩ "abcdefghijklmnopqrstuvwxyz") ?_
      (repeat (first | with_reducible refine w_seq ?_ | with_reducible refine w_set ?_ | with_reducible refine w_expr ?_ | with_reducible refine w_ret ?_ | with_reducible refine w_retN ?_ | with_reducible refine w_store ?_ | with_reducible refine w_nop ?_ | with_reducible refine w_for ?_ | with_reducible refine w_asg ?_ | with_reducible refine w_ct ?_ | with_reducible refine w_brk ?_ | with_reducible refine y_f2 ?_ | with_reducible refine y_C ?_ | with_reducible refine y_var (by with_unfolding_all exact rfl) ?_ | with_reducible refine y_f1 ?_ | with_reducible refine y_B ?_ | with_reducible refine y_unB ?_ | with_reducible refine y_ch ?_ | with_reducible refine y_tru ?_ | with_reducible refine y_tbl ?_ | with_reducible refine y_and ?_ | with_reducible refine y_or ?_ | with_reducible refine y_not ?_ | with_reducible refine y_andV ?_ | with_reducible refine y_notV ?_ | with_reducible refine y_nil ?_ | with_reducible refine y_cons ?_ | with_reducible refine y_tup ?_ | with_reducible refine y_lst ?_ | with_reducible refine y_val ?_ | with_reducible refine y_loc ?_ | with_reducible refine y_dval ?_ | with_reducible refine y_dloc ?_ | with_reducible refine y_ice ?_ | with_reducible refine y_oNone ?_ | with_reducible refine y_oSome ?_ | with_reducible refine y_sl ?_ | with_reducible refine y_A ?_ | with_reducible refine y_call ?_ | with_reducible refine y_M ?_ | with_reducible refine y_aComp ?_ | with_reducible refine y_rng1 ?_ | with_reducible refine y_over ?_ | with_reducible refine y_addI ?_ | with_reducible refine y_subI ?_ | with_reducible refine y_ltI ?_ | with_reducible refine y_leI ?_ | with_reducible refine y_gtI ?_ | with_reducible refine y_geI ?_ | with_reducible refine y_eqI ?_ | with_reducible refine y_neI ?_ | with_reducible refine y_eqB ?_ | with_reducible refine y_neB ?_ | with_reducible refine y_eqS ?_ | with_reducible refine y_neS ?_ | with_reducible refine y_isN ?_ | with_reducible refine y_isnN ?_ | with_reducible refine y_wget ?_ | with_reducible refine And.intro (len_ok (by with_unfolding_all exact rfl)) ?_))
      refine ite_b (fun c2 => ?_) (fun c2 => ?_)
      · (repeat (first | with_reducible refine w_seq ?_ | with_reducible refine w_set ?_ | with_reducible refine w_expr ?_ | with_reducible refine w_ret ?_ | with_reducible refine w_retN ?_ | with_reducible refine w_store ?_ | with_reducible refine w_nop ?_ | with_reducible refine w_for ?_ | with_reducible refine w_asg ?_ | with_reducible refine w_ct ?_ | with_reducible refine w_brk ?_ | with_reducible refine y_f2 ?_ | with_reducible refine y_C ?_ | with_reducible refine y_var (by with_unfolding_all exact rfl) ?_ | with_reducible refine y_f1 ?_ | with_reducible refine y_B ?_ | with_reducible refine y_unB ?_ | with_reducible refine y_ch ?_ | with_reducible refine y_tru ?_ | with_reducible refine y_tbl ?_ | with_reducible refine y_and ?_ | with_reducible refine y_or ?_ | with_reducible refine y_not ?_ | with_reducible refine y_andV ?_ | with_reducible refine y_notV ?_ | with_reducible refine y_nil ?_ | with_reducible refine y_cons ?_ | with_reducible refine y_tup ?_ | with_reducible refine y_lst ?_ | with_reducible refine y_val ?_ | with_reducible refine y_loc ?_ | with_reducible refine y_dval ?_ | with_reducible refine y_dloc ?_ | with_reducible refine y_ice ?_ | with_reducible refine y_oNone ?_ | with_reducible refine y_oSome ?_ | with_reducible refine y_sl ?_ | with_reducible refine y_A ?_ | with_reducible refine y_call ?_ | with_reducible refine y_M ?_ | with_reducible refine y_aComp ?_ | with_reducible refine y_rng1 ?_ | with_reducible refine y_over ?_ | with_reducible refine y_addI ?_ | with_reducible refine y_subI ?_ | with_reducible refine y_ltI ?_ | with_reducible refine y_leI ?_ | with_reducible refine y_gtI ?_ | with_reducible refine y_geI ?_ | with_reducible refine y_eqI ?_ | with_reducible refine y_neI ?_ | with_reducible refine y_eqB ?_ | with_reducible refine y_neB ?_ | with_reducible refine y_eqS ?_ | with_reducible refine y_neS ?_ | with_reducible refine y_isN ?_ | with_reducible refine y_isnN ?_ | with_reducible refine y_wget ?_ | with_reducible refine And.intro (len_ok (by with_unfolding_all exact rfl)) ?_))
        refine ⟨rfl, ?_⟩
        rw [cnt_name, hw, wordB_str, decide_eq_true h1, decide_eq_true h8, h7]
        unfold lettersB
        rw [c2]
        rfl
      · (repeat (first | with_reducible refine w_seq ?_ | with_reducible refine w_set ?_ | with_reducible refine w_expr ?_ | with_reducible refine w_ret ?_ | with_reducible refine w_retN ?_ | with_reducible refine w_store ?_ | with_reducible refine w_nop ?_ | with_reducible refine w_for ?_ | with_reducible refine w_asg ?_ | with_reducible refine w_ct ?_ | with_reducible refine w_brk ?_ | with_reducible refine y_f2 ?_ | with_reducible refine y_C ?_ | with_reducible refine y_var (by with_unfolding_all exact rfl) ?_ | with_reducible refine y_f1 ?_ | with_reducible refine y_B ?_ | with_reducible refine y_unB ?_ | with_reducible refine y_ch ?_ | with_reducible refine y_tru ?_ | with_reducible refine y_tbl ?_ | with_reducible refine y_and ?_ | with_reducible refine y_or ?_ | with_reducible refine y_not ?_ | with_reducible refine y_andV ?_ | with_reducible refine y_notV ?_ | with_reducible refine y_nil ?_ | with_reducible refine y_cons ?_ | with_reducible refine y_tup ?_ | with_reducible refine y_lst ?_ | with_reducible refine y_val ?_ | with_reducible refine y_loc ?_ | with_reducible refine y_dval ?_ | with_reducible refine y_dloc ?_ | with_reducible refine y_ice ?_ | with_reducible refine y_oNone ?_ | with_reducible refine y_oSome ?_ | with_reducible refine y_sl ?_ | with_reducible refine y_A ?_ | with_reducible refine y_call ?_ | with_reducible refine y_M ?_ | with_reducible refine y_aComp ?_ | with_reducible refine y_rng1 ?_ | with_reducible refine y_over ?_ | with_reducible refine y_addI ?_ | with_reducible refine y_subI ?_ | with_reducible refine y_ltI ?_ | with_reducible refine y_leI ?_ | with_reducible refine y_gtI ?_ | with_reducible refine y_geI ?_ | with_reducible refine y_eqI ?_ | with_reducible refine y_neI ?_ | with_reducible refine y_eqB ?_ | with_reducible refine y_neB ?_ | with_reducible refine y_eqS ?_ | with_reducible refine y_neS ?_ | with_reducible refine y_isN ?_ | with_reducible refine y_isnN ?_ | with_reducible refine y_wget ?_ | with_reducible refine And.intro (len_ok (by with_unfolding_all exact rfl)) ?_))
        refine ⟨rfl, ?_⟩
        rw [cnt_name, hw, wordB_str, decide_eq_true h1, decide_eq_true h8, h7]
        unfold lettersB
        rw [c2]
        rfl
  have c1 := of_decide_eq_false c1
  (repeat (first | with_reducible refine w_seq ?_ | with_reducible refine w_set ?_ | with_reducible refine w_expr ?_ | with_reducible refine w_ret ?_ | with_reducible refine w_retN ?_ | with_reducible refine w_store ?_ | with_reducible refine w_nop ?_ | with_reducible refine w_for ?_ | with_reducible refine w_asg ?_ | with_reducible refine w_ct ?_ | with_reducible refine w_brk ?_ | with_reducible refine y_f2 ?_ | with_reducible refine y_C ?_ | with_reducible refine y_var (by with_unfolding_all exact rfl) ?_ | with_reducible refine y_f1 ?_ | with_reducible refine y_B ?_ | with_reducible refine y_unB ?_ | with_reducible refine y_ch ?_ | with_reducible refine y_tru ?_ | with_reducible refine y_tbl ?_ | with_reducible refine y_and ?_ | with_reducible refine y_or ?_ | with_reducible refine y_not ?_ | with_reducible refine y_andV ?_ | with_reducible refine y_notV ?_ | with_reducible refine y_nil ?_ | with_reducible refine y_cons ?_ | with_reducible refine y_tup ?_ | with_reducible refine y_lst ?_ | with_reducible refine y_val ?_ | with_reducible refine y_loc ?_ | with_reducible refine y_dval ?_ | with_reducible refine y_dloc ?_ | with_reducible refine y_ice ?_ | with_reducible refine y_oNone ?_ | with_reducible refine y_oSome ?_ | with_reducible refine y_sl ?_ | with_reducible refine y_A ?_ | with_reducible refine y_call ?_ | with_reducible refine y_M ?_ | with_reducible refine y_aComp ?_ | with_reducible refine y_rng1 ?_ | with_reducible refine y_over ?_ | with_reducible refine y_addI ?_ | with_reducible refine y_subI ?_ | with_reducible refine y_ltI ?_ | with_reducible refine y_leI ?_ | with_reducible refine y_gtI ?_ | with_reducible refine y_geI ?_ | with_reducible refine y_eqI ?_ | with_reducible refine y_neI ?_ | with_reducible refine y_eqB ?_ | with_reducible refine y_neB ?_ | with_reducible refine y_eqS ?_ | with_reducible refine y_neS ?_ | with_reducible refine y_isN ?_ | with_reducible refine y_isnN ?_ | with_reducible refine y_wget ?_ | with_reducible refine And.intro (len_ok (by with_unfolding_all exact rfl)) ?_))
  refine Y.of (show dDisp _ _ _ = .ok (t_MANY.map (fun p => (.inr p.1 : Key)), t_MANY.map (·.2)) _ from rfl) ?_
  refine ⟨rfl, ?_⟩
  (repeat (first | with_reducible refine w_seq ?_ | with_reducible refine w_set ?_ | with_reducible refine w_expr ?_ | with_reducible refine w_ret ?_ | with_reducible refine w_retN ?_ | with_reducible refine w_store ?_ | with_reducible refine w_nop ?_ | with_reducible refine w_for ?_ | with_reducible refine w_asg ?_ | with_reducible refine w_ct ?_ | with_reducible refine w_brk ?_ | with_reducible refine y_f2 ?_ | with_reducible refine y_C ?_ | with_reducible refine y_var (by with_unfolding_all exact rfl) ?_ | with_reducible refine y_f1 ?_ | with_reducible refine y_B ?_ | with_reducible refine y_unB ?_ | with_reducible refine y_ch ?_ | with_reducible refine y_tru ?_ | with_reducible refine y_tbl ?_ | with_reducible refine y_and ?_ | with_reducible refine y_or ?_ | with_reducible refine y_not ?_ | with_reducible refine y_andV ?_ | with_reducible refine y_notV ?_ | with_reducible refine y_nil ?_ | with_reducible refine y_cons ?_ | with_reducible refine y_tup ?_ | with_reducible refine y_lst ?_ | with_reducible refine y_val ?_ | with_reducible refine y_loc ?_ | with_reducible refine y_dval ?_ | with_reducible refine y_dloc ?_ | with_reducible refine y_ice ?_ | with_reducible refine y_oNone ?_ | with_reducible refine y_oSome ?_ | with_reducible refine y_sl ?_ | with_reducible refine y_A ?_ | with_reducible refine y_call ?_ | with_reducible refine y_M ?_ | with_reducible refine y_aComp ?_ | with_reducible refine y_rng1 ?_ | with_reducible refine y_over ?_ | with_reducible refine y_addI ?_ | with_reducible refine y_subI ?_ | with_reducible refine y_ltI ?_ | with_reducible refine y_leI ?_ | with_reducible refine y_gtI ?_ | with_reducible refine y_geI ?_ | with_reducible refine y_eqI ?_ | with_reducible refine y_neI ?_ | with_reducible refine y_eqB ?_ | with_reducible refine y_neB ?_ | with_reducible refine y_eqS ?_ | with_reducible refine y_neS ?_ | with_reducible refine y_isN ?_ | with_reducible refine y_isnN ?_ | with_reducible refine y_wget ?_ | with_reducible refine And.intro (len_ok (by with_unfolding_all exact rfl)) ?_))
  refine y_ixT0 ?_
  (repeat (first | with_reducible refine w_seq ?_ | with_reducible refine w_set ?_ | with_reducible refine w_expr ?_ | with_reducible refine w_ret ?_ | with_reducible refine w_retN ?_ | with_reducible refine w_store ?_ | with_reducible refine w_nop ?_ | with_reducible refine w_for ?_ | with_reducible refine w_asg ?_ | with_reducible refine w_ct ?_ | with_reducible refine w_brk ?_ | with_reducible refine y_f2 ?_ | with_reducible refine y_C ?_ | with_reducible refine y_var (by with_unfolding_all exact rfl) ?_ | with_reducible refine y_f1 ?_ | with_reducible refine y_B ?_ | with_reducible refine y_unB ?_ | with_reducible refine y_ch ?_ | with_reducible refine y_tru ?_ | with_reducible refine y_tbl ?_ | with_reducible refine y_and ?_ | with_reducible refine y_or ?_ | with_reducible refine y_not ?_ | with_reducible refine y_andV ?_ | with_reducible refine y_notV ?_ | with_reducible refine y_nil ?_ | with_reducible refine y_cons ?_ | with_reducible refine y_tup ?_ | with_reducible refine y_lst ?_ | with_reducible refine y_val ?_ | with_reducible refine y_loc ?_ | with_reducible refine y_dval ?_ | with_reducible refine y_dloc ?_ | with_reducible refine y_ice ?_ | with_reducible refine y_oNone ?_ | with_reducible refine y_oSome ?_ | with_reducible refine y_sl ?_ | with_reducible refine y_A ?_ | with_reducible refine y_call ?_ | with_reducible refine y_M ?_ | with_reducible refine y_aComp ?_ | with_reducible refine y_rng1 ?_ | with_reducible refine y_over ?_ | with_reducible refine y_addI ?_ | with_reducible refine y_subI ?_ | with_reducible refine y_ltI ?_ | with_reducible refine y_leI ?_ | with_reducible refine y_gtI ?_ | with_reducible refine y_geI ?_ | with_reducible refine y_eqI ?_ | with_reducible refine y_neI ?_ | with_reducible refine y_eqB ?_ | with_reducible refine y_neB ?_ | with_reducible refine y_eqS ?_ | with_reducible refine y_neS ?_ | with_reducible refine y_isN ?_ | with_reducible refine y_isnN ?_ | with_reducible refine y_wget ?_ | with_reducible refine And.intro (len_ok (by with_unfolding_all exact rfl)) ?_))
  refine y_getM ?_
  rw [look_many]
  obtain ⟨q, eq, hq⟩ : ∃ q : Nat, (Option.map (fun m : Nat => U.int (m : Int)) (arity z)).getD (.int 9) = .int (q : Int) ∧ opCnt (cnt n) z us = if us.length = q then 1 + (us.map (cnt n)).sum else 1000 := by
    cases ha : arity z with
    | none =>
      refine ⟨9, rfl, ?_⟩
      rw [op_none ha, if_neg]
      rw [List.length_cons] at hl
      omega
    | some q => exact ⟨q, rfl, op_some ha⟩
  rw [eq]
  (repeat (first | with_reducible refine w_seq ?_ | with_reducible refine w_set ?_ | with_reducible refine w_expr ?_ | with_reducible refine w_ret ?_ | with_reducible refine w_retN ?_ | with_reducible refine w_store ?_ | with_reducible refine w_nop ?_ | with_reducible refine w_for ?_ | with_reducible refine w_asg ?_ | with_reducible refine w_ct ?_ | with_reducible refine w_brk ?_ | with_reducible refine y_f2 ?_ | with_reducible refine y_C ?_ | with_reducible refine y_var (by with_unfolding_all exact rfl) ?_ | with_reducible refine y_f1 ?_ | with_reducible refine y_B ?_ | with_reducible refine y_unB ?_ | with_reducible refine y_ch ?_ | with_reducible refine y_tru ?_ | with_reducible refine y_tbl ?_ | with_reducible refine y_and ?_ | with_reducible refine y_or ?_ | with_reducible refine y_not ?_ | with_reducible refine y_andV ?_ | with_reducible refine y_notV ?_ | with_reducible refine y_nil ?_ | with_reducible refine y_cons ?_ | with_reducible refine y_tup ?_ | with_reducible refine y_lst ?_ | with_reducible refine y_val ?_ | with_reducible refine y_loc ?_ | with_reducible refine y_dval ?_ | with_reducible refine y_dloc ?_ | with_reducible refine y_ice ?_ | with_reducible refine y_oNone ?_ | with_reducible refine y_oSome ?_ | with_reducible refine y_sl ?_ | with_reducible refine y_A ?_ | with_reducible refine y_call ?_ | with_reducible refine y_M ?_ | with_reducible refine y_aComp ?_ | with_reducible refine y_rng1 ?_ | with_reducible refine y_over ?_ | with_reducible refine y_addI ?_ | with_reducible refine y_subI ?_ | with_reducible refine y_ltI ?_ | with_reducible refine y_leI ?_ | with_reducible refine y_gtI ?_ | with_reducible refine y_geI ?_ | with_reducible refine y_eqI ?_ | with_reducible refine y_neI ?_ | with_reducible refine y_eqB ?_ | with_reducible refine y_neB ?_ | with_reducible refine y_eqS ?_ | with_reducible refine y_neS ?_ | with_reducible refine y_isN ?_ | with_reducible refine y_isnN ?_ | with_reducible refine y_wget ?_ | with_reducible refine And.intro (len_ok (by with_unfolding_all exact rfl)) ?_))
  refine w_if ?_
  (repeat (first | with_reducible refine w_seq ?_ | with_reducible refine w_set ?_ | with_reducible refine w_expr ?_ | with_reducible refine w_ret ?_ | with_reducible refine w_retN ?_ | with_reducible refine w_store ?_ | with_reducible refine w_nop ?_ | with_reducible refine w_for ?_ | with_reducible refine w_asg ?_ | with_reducible refine w_ct ?_ | with_reducible refine w_brk ?_ | with_reducible refine y_f2 ?_ | with_reducible refine y_C ?_ | with_reducible refine y_var (by with_unfolding_all exact rfl) ?_ | with_reducible refine y_f1 ?_ | with_reducible refine y_B ?_ | with_reducible refine y_unB ?_ | with_reducible refine y_ch ?_ | with_reducible refine y_tru ?_ | with_reducible refine y_tbl ?_ | with_reducible refine y_and ?_ | with_reducible refine y_or ?_ | with_reducible refine y_not ?_ | with_reducible refine y_andV ?_ | with_reducible refine y_notV ?_ | with_reducible refine y_nil ?_ | with_reducible refine y_cons ?_ | with_reducible refine y_tup ?_ | with_reducible refine y_lst ?_ | with_reducible refine y_val ?_ | with_reducible refine y_loc ?_ | with_reducible refine y_dval ?_ | with_reducible refine y_dloc ?_ | with_reducible refine y_ice ?_ | with_reducible refine y_oNone ?_ | with_reducible refine y_oSome ?_ | with_reducible refine y_sl ?_ | with_reducible refine y_A ?_ | with_reducible refine y_call ?_ | with_reducible refine y_M ?_ | with_reducible refine y_aComp ?_ | with_reducible refine y_rng1 ?_ | with_reducible refine y_over ?_ | with_reducible refine y_addI ?_ | with_reducible refine y_subI ?_ | with_reducible refine y_ltI ?_ | with_reducible refine y_leI ?_ | with_reducible refine y_gtI ?_ | with_reducible refine y_geI ?_ | with_reducible refine y_eqI ?_ | with_reducible refine y_neI ?_ | with_reducible refine y_eqB ?_ | with_reducible refine y_neB ?_ | with_reducible refine y_eqS ?_ | with_reducible refine y_neS ?_ | with_reducible refine y_isN ?_ | with_reducible refine y_isnN ?_ | with_reducible refine y_wget ?_ | with_reducible refine And.intro (len_ok (by with_unfolding_all exact rfl)) ?_))
  refine y_lenT ?_
  (repeat (first | with_reducible refine w_seq ?_ | with_reducible refine w_set ?_ | with_reducible refine w_expr ?_ | with_reducible refine w_ret ?_ | with_reducible refine w_retN ?_ | with_reducible refine w_store ?_ | with_reducible refine w_nop ?_ | with_reducible refine w_for ?_ | with_reducible refine w_asg ?_ | with_reducible refine w_ct ?_ | with_reducible refine w_brk ?_ | with_reducible refine y_f2 ?_ | with_reducible refine y_C ?_ | with_reducible refine y_var (by with_unfolding_all exact rfl) ?_ | with_reducible refine y_f1 ?_ | with_reducible refine y_B ?_ | with_reducible refine y_unB ?_ | with_reducible refine y_ch ?_ | with_reducible refine y_tru ?_ | with_reducible refine y_tbl ?_ | with_reducible refine y_and ?_ | with_reducible refine y_or ?_ | with_reducible refine y_not ?_ | with_reducible refine y_andV ?_ | with_reducible refine y_notV ?_ | with_reducible refine y_nil ?_ | with_reducible refine y_cons ?_ | with_reducible refine y_tup ?_ | with_reducible refine y_lst ?_ | with_reducible refine y_val ?_ | with_reducible refine y_loc ?_ | with_reducible refine y_dval ?_ | with_reducible refine y_dloc ?_ | with_reducible refine y_ice ?_ | with_reducible refine y_oNone ?_ | with_reducible refine y_oSome ?_ | with_reducible refine y_sl ?_ | with_reducible refine y_A ?_ | with_reducible refine y_call ?_ | with_reducible refine y_M ?_ | with_reducible refine y_aComp ?_ | with_reducible refine y_rng1 ?_ | with_reducible refine y_over ?_ | with_reducible refine y_addI ?_ | with_reducible refine y_subI ?_ | with_reducible refine y_ltI ?_ | with_reducible refine y_leI ?_ | with_reducible refine y_gtI ?_ | with_reducible refine y_geI ?_ | with_reducible refine y_eqI ?_ | with_reducible refine y_neI ?_ | with_reducible refine y_eqB ?_ | with_reducible refine y_neB ?_ | with_reducible refine y_eqS ?_ | with_reducible refine y_neS ?_ | with_reducible refine y_isN ?_ | with_reducible refine y_isnN ?_ | with_reducible refine y_wget ?_ | with_reducible refine And.intro (len_ok (by with_unfolding_all exact rfl)) ?_))
  rw [List.length_cons]
  refine ite_b (fun c2 => ?_) (fun c2 => ?_)
  · (repeat (first | with_reducible refine w_seq ?_ | with_reducible refine w_set ?_ | with_reducible refine w_expr ?_ | with_reducible refine w_ret ?_ | with_reducible refine w_retN ?_ | with_reducible refine w_store ?_ | with_reducible refine w_nop ?_ | with_reducible refine w_for ?_ | with_reducible refine w_asg ?_ | with_reducible refine w_ct ?_ | with_reducible refine w_brk ?_ | with_reducible refine y_f2 ?_ | with_reducible refine y_C ?_ | with_reducible refine y_var (by with_unfolding_all exact rfl) ?_ | with_reducible refine y_f1 ?_ | with_reducible refine y_B ?_ | with_reducible refine y_unB ?_ | with_reducible refine y_ch ?_ | with_reducible refine y_tru ?_ | with_reducible refine y_tbl ?_ | with_reducible refine y_and ?_ | with_reducible refine y_or ?_ | with_reducible refine y_not ?_ | with_reducible refine y_andV ?_ | with_reducible refine y_notV ?_ | with_reducible refine y_nil ?_ | with_reducible refine y_cons ?_ | with_reducible refine y_tup ?_ | with_reducible refine y_lst ?_ | with_reducible refine y_val ?_ | with_reducible refine y_loc ?_ | with_reducible refine y_dval ?_ | with_reducible refine y_dloc ?_ | with_reducible refine y_ice ?_ | with_reducible refine y_oNone ?_ | with_reducible refine y_oSome ?_ | with_reducible refine y_sl ?_ | with_reducible refine y_A ?_ | with_reducible refine y_call ?_ | with_reducible refine y_M ?_ | with_reducible refine y_aComp ?_ | with_reducible refine y_rng1 ?_ | with_reducible refine y_over ?_ | with_reducible refine y_addI ?_ | with_reducible refine y_subI ?_ | with_reducible refine y_ltI ?_ | with_reducible refine y_leI ?_ | with_reducible refine y_gtI ?_ | with_reducible refine y_geI ?_ | with_reducible refine y_eqI ?_ | with_reducible refine y_neI ?_ | with_reducible refine y_eqB ?_ | with_reducible refine y_neB ?_ | with_reducible refine y_eqS ?_ | with_reducible refine y_neS ?_ | with_reducible refine y_isN ?_ | with_reducible refine y_isnN ?_ | with_reducible refine y_wget ?_ | with_reducible refine And.intro (len_ok (by with_unfolding_all exact rfl)) ?_))
    refine ⟨rfl, ?_⟩
    rw [cnt_op c1, hq, if_neg]
    intro e
    rw [decide_eq_true (by omega)] at c2
    cases c2
  have hlq : us.length = q := by
    cases hd : decide (((us.length + 1 : Nat) : Int) = (q : Int) + 1) with
    | true => have := of_decide_eq_true hd; omega
    | false => rw [hd] at c2; cases c2
  (repeat (first | with_reducible refine w_seq ?_ | with_reducible refine w_set ?_ | with_reducible refine w_expr ?_ | with_reducible refine w_ret ?_ | with_reducible refine w_retN ?_ | with_reducible refine w_store ?_ | with_reducible refine w_nop ?_ | with_reducible refine w_for ?_ | with_reducible refine w_asg ?_ | with_reducible refine w_ct ?_ | with_reducible refine w_brk ?_ | with_reducible refine y_f2 ?_ | with_reducible refine y_C ?_ | with_reducible refine y_var (by with_unfolding_all exact rfl) ?_ | with_reducible refine y_f1 ?_ | with_reducible refine y_B ?_ | with_reducible refine y_unB ?_ | with_reducible refine y_ch ?_ | with_reducible refine y_tru ?_ | with_reducible refine y_tbl ?_ | with_reducible refine y_and ?_ | with_reducible refine y_or ?_ | with_reducible refine y_not ?_ | with_reducible refine y_andV ?_ | with_reducible refine y_notV ?_ | with_reducible refine y_nil ?_ | with_reducible refine y_cons ?_ | with_reducible refine y_tup ?_ | with_reducible refine y_lst ?_ | with_reducible refine y_val ?_ | with_reducible refine y_loc ?_ | with_reducible refine y_dval ?_ | with_reducible refine y_dloc ?_ | with_reducible refine y_ice ?_ | with_reducible refine y_oNone ?_ | with_reducible refine y_oSome ?_ | with_reducible refine y_sl ?_ | with_reducible refine y_A ?_ | with_reducible refine y_call ?_ | with_reducible refine y_M ?_ | with_reducible refine y_aComp ?_ | with_reducible refine y_rng1 ?_ | with_reducible refine y_over ?_ | with_reducible refine y_addI ?_ | with_reducible refine y_subI ?_ | with_reducible refine y_ltI ?_ | with_reducible refine y_leI ?_ | with_reducible refine y_gtI ?_ | with_reducible refine y_geI ?_ | with_reducible refine y_eqI ?_ | with_reducible refine y_neI ?_ | with_reducible refine y_eqB ?_ | with_reducible refine y_neB ?_ | with_reducible refine y_eqS ?_ | with_reducible refine y_neS ?_ | with_reducible refine y_isN ?_ | with_reducible refine y_isnN ?_ | with_reducible refine y_wget ?_ | with_reducible refine And.intro (len_ok (by with_unfolding_all exact rfl)) ?_))
  refine ⟨_, rfl, ?_⟩
  (repeat (first | with_reducible refine w_seq ?_ | with_reducible refine w_set ?_ | with_reducible refine w_expr ?_ | with_reducible refine w_ret ?_ | with_reducible refine w_retN ?_ | with_reducible refine w_store ?_ | with_reducible refine w_nop ?_ | with_reducible refine w_for ?_ | with_reducible refine w_asg ?_ | with_reducible refine w_ct ?_ | with_reducible refine w_brk ?_ | with_reducible refine y_f2 ?_ | with_reducible refine y_C ?_ | with_reducible refine y_var (by with_unfolding_all exact rfl) ?_ | with_reducible refine y_f1 ?_ | with_reducible refine y_B ?_ | with_reducible refine y_unB ?_ | with_reducible refine y_ch ?_ | with_reducible refine y_tru ?_ | with_reducible refine y_tbl ?_ | with_reducible refine y_and ?_ | with_reducible refine y_or ?_ | with_reducible refine y_not ?_ | with_reducible refine y_andV ?_ | with_reducible refine y_notV ?_ | with_reducible refine y_nil ?_ | with_reducible refine y_cons ?_ | with_reducible refine y_tup ?_ | with_reducible refine y_lst ?_ | with_reducible refine y_val ?_ | with_reducible refine y_loc ?_ | with_reducible refine y_dval ?_ | with_reducible refine y_dloc ?_ | with_reducible refine y_ice ?_ | with_reducible refine y_oNone ?_ | with_reducible refine y_oSome ?_ | with_reducible refine y_sl ?_ | with_reducible refine y_A ?_ | with_reducible refine y_call ?_ | with_reducible refine y_M ?_ | with_reducible refine y_aComp ?_ | with_reducible refine y_rng1 ?_ | with_reducible refine y_over ?_ | with_reducible refine y_addI ?_ | with_reducible refine y_subI ?_ | with_reducible refine y_ltI ?_ | with_reducible refine y_leI ?_ | with_reducible refine y_gtI ?_ | with_reducible refine y_geI ?_ | with_reducible refine y_eqI ?_ | with_reducible refine y_neI ?_ | with_reducible refine y_eqB ?_ | with_reducible refine y_neB ?_ | with_reducible refine y_eqS ?_ | with_reducible refine y_neS ?_ | with_reducible refine y_isN ?_ | with_reducible refine y_isnN ?_ | with_reducible refine y_wget ?_ | with_reducible refine And.intro (len_ok (by with_unfolding_all exact rfl)) ?_))
  refine y_slT ?_
  rw [sl1]
  refine ⟨us, rfl, ?_⟩
  refine y_compM (fun v => .int (cnt n v)) _ _ ?_ (by rw [sizeL]; rw [List.length_cons] at hl; simp only [List.length_nil]; omega) ?_
  · intro v hv
    refine ⟨_, rfl, ?_⟩
    (repeat (first | with_reducible refine w_seq ?_ | with_reducible refine w_set ?_ | with_reducible refine w_expr ?_ | with_reducible refine w_ret ?_ | with_reducible refine w_retN ?_ | with_reducible refine w_store ?_ | with_reducible refine w_nop ?_ | with_reducible refine w_for ?_ | with_reducible refine w_asg ?_ | with_reducible refine w_ct ?_ | with_reducible refine w_brk ?_ | with_reducible refine y_f2 ?_ | with_reducible refine y_C ?_ | with_reducible refine y_var (by with_unfolding_all exact rfl) ?_ | with_reducible refine y_f1 ?_ | with_reducible refine y_B ?_ | with_reducible refine y_unB ?_ | with_reducible refine y_ch ?_ | with_reducible refine y_tru ?_ | with_reducible refine y_tbl ?_ | with_reducible refine y_and ?_ | with_reducible refine y_or ?_ | with_reducible refine y_not ?_ | with_reducible refine y_andV ?_ | with_reducible refine y_notV ?_ | with_reducible refine y_nil ?_ | with_reducible refine y_cons ?_ | with_reducible refine y_tup ?_ | with_reducible refine y_lst ?_ | with_reducible refine y_val ?_ | with_reducible refine y_loc ?_ | with_reducible refine y_dval ?_ | with_reducible refine y_dloc ?_ | with_reducible refine y_ice ?_ | with_reducible refine y_oNone ?_ | with_reducible refine y_oSome ?_ | with_reducible refine y_sl ?_ | with_reducible refine y_A ?_ | with_reducible refine y_call ?_ | with_reducible refine y_M ?_ | with_reducible refine y_aComp ?_ | with_reducible refine y_rng1 ?_ | with_reducible refine y_over ?_ | with_reducible refine y_addI ?_ | with_reducible refine y_subI ?_ | with_reducible refine y_ltI ?_ | with_reducible refine y_leI ?_ | with_reducible refine y_gtI ?_ | with_reducible refine y_geI ?_ | with_reducible refine y_eqI ?_ | with_reducible refine y_neI ?_ | with_reducible refine y_eqB ?_ | with_reducible refine y_neB ?_ | with_reducible refine y_eqS ?_ | with_reducible refine y_neS ?_ | with_reducible refine y_isN ?_ | with_reducible refine y_isnN ?_ | with_reducible refine y_wget ?_ | with_reducible refine And.intro (len_ok (by with_unfolding_all exact rfl)) ?_))
    refine ⟨rfl, ?_⟩
    rw [show (26 - ((n + 1 : Nat) : Int)) + 1 = 26 - (n : Int) by omega]
    refine (hrec (by omega) (pz v hv)).mono ?_
    rintro _ _ ⟨rfl, rfl⟩
    exact ⟨rfl, rfl⟩
  (repeat (first | with_reducible refine w_seq ?_ | with_reducible refine w_set ?_ | with_reducible refine w_expr ?_ | with_reducible refine w_ret ?_ | with_reducible refine w_retN ?_ | with_reducible refine w_store ?_ | with_reducible refine w_nop ?_ | with_reducible refine w_for ?_ | with_reducible refine w_asg ?_ | with_reducible refine w_ct ?_ | with_reducible refine w_brk ?_ | with_reducible refine y_f2 ?_ | with_reducible refine y_C ?_ | with_reducible refine y_var (by with_unfolding_all exact rfl) ?_ | with_reducible refine y_f1 ?_ | with_reducible refine y_B ?_ | with_reducible refine y_unB ?_ | with_reducible refine y_ch ?_ | with_reducible refine y_tru ?_ | with_reducible refine y_tbl ?_ | with_reducible refine y_and ?_ | with_reducible refine y_or ?_ | with_reducible refine y_not ?_ | with_reducible refine y_andV ?_ | with_reducible refine y_notV ?_ | with_reducible refine y_nil ?_ | with_reducible refine y_cons ?_ | with_reducible refine y_tup ?_ | with_reducible refine y_lst ?_ | with_reducible refine y_val ?_ | with_reducible refine y_loc ?_ | with_reducible refine y_dval ?_ | with_reducible refine y_dloc ?_ | with_reducible refine y_ice ?_ | with_reducible refine y_oNone ?_ | with_reducible refine y_oSome ?_ | with_reducible refine y_sl ?_ | with_reducible refine y_A ?_ | with_reducible refine y_call ?_ | with_reducible refine y_M ?_ | with_reducible refine y_aComp ?_ | with_reducible refine y_rng1 ?_ | with_reducible refine y_over ?_ | with_reducible refine y_addI ?_ | with_reducible refine y_subI ?_ | with_reducible refine y_ltI ?_ | with_reducible refine y_leI ?_ | with_reducible refine y_gtI ?_ | with_reducible refine y_geI ?_ | with_reducible refine y_eqI ?_ | with_reducible refine y_neI ?_ | with_reducible refine y_eqB ?_ | with_reducible refine y_neB ?_ | with_reducible refine y_eqS ?_ | with_reducible refine y_neS ?_ | with_reducible refine y_isN ?_ | with_reducible refine y_isnN ?_ | with_reducible refine y_wget ?_ | with_reducible refine And.intro (len_ok (by with_unfolding_all exact rfl)) ?_))
  rw [List.nil_append]
  refine sum_map (cnt n) ?_
  (repeat (first | with_reducible refine w_seq ?_ | with_reducible refine w_set ?_ | with_reducible refine w_expr ?_ | with_reducible refine w_ret ?_ | with_reducible refine w_retN ?_ | with_reducible refine w_store ?_ | with_reducible refine w_nop ?_ | with_reducible refine w_for ?_ | with_reducible refine w_asg ?_ | with_reducible refine w_ct ?_ | with_reducible refine w_brk ?_ | with_reducible refine y_f2 ?_ | with_reducible refine y_C ?_ | with_reducible refine y_var (by with_unfolding_all exact rfl) ?_ | with_reducible refine y_f1 ?_ | with_reducible refine y_B ?_ | with_reducible refine y_unB ?_ | with_reducible refine y_ch ?_ | with_reducible refine y_tru ?_ | with_reducible refine y_tbl ?_ | with_reducible refine y_and ?_ | with_reducible refine y_or ?_ | with_reducible refine y_not ?_ | with_reducible refine y_andV ?_ | with_reducible refine y_notV ?_ | with_reducible refine y_nil ?_ | with_reducible refine y_cons ?_ | with_reducible refine y_tup ?_ | with_reducible refine y_lst ?_ | with_reducible refine y_val ?_ | with_reducible refine y_loc ?_ | with_reducible refine y_dval ?_ | with_reducible refine y_dloc ?_ | with_reducible refine y_ice ?_ | with_reducible refine y_oNone ?_ | with_reducible refine y_oSome ?_ | with_reducible refine y_sl ?_ | with_reducible refine y_A ?_ | with_reducible refine y_call ?_ | with_reducible refine y_M ?_ | with_reducible refine y_aComp ?_ | with_reducible refine y_rng1 ?_ | with_reducible refine y_over ?_ | with_reducible refine y_addI ?_ | with_reducible refine y_subI ?_ | with_reducible refine y_ltI ?_ | with_reducible refine y_leI ?_ | with_reducible refine y_gtI ?_ | with_reducible refine y_geI ?_ | with_reducible refine y_eqI ?_ | with_reducible refine y_neI ?_ | with_reducible refine y_eqB ?_ | with_reducible refine y_neB ?_ | with_reducible refine y_eqS ?_ | with_reducible refine y_neS ?_ | with_reducible refine y_isN ?_ | with_reducible refine y_isnN ?_ | with_reducible refine y_wget ?_ | with_reducible refine And.intro (len_ok (by with_unfolding_all exact rfl)) ?_))
  refine ⟨rfl, ?_⟩
  rw [cnt_op c1, hq, if_pos hlq]
theorem counted {c : Nat} (hc : c ≤ 9) : ∀ (n k : Nat) {m : Nat} {u : U} {S : Sto}, m ≤ 64 → Pl c m u → Y (call (n + k + 1) i_law_counted [u, .int (26 - n)] S) (CountP n u S)
  | 0, k, m, u, S, hm, p => counted_step hc 0 (0 + k) hm p fun e he => by cases he
  | n + 1, k, m, u, S, hm, p => by
    have := counted_step hc (n + 1) (n + k + 1) (S := S) hm p fun e he m u hm p => by
      cases he
      exact counted hc n k hm p
    rw [show n + 1 + k + 1 = n + k + 1 + 1 from by omega]
    exact this

end Law

set_option Elab.async false
set_option linter.all false
set_option maxRecDepth 100000
set_option maxHeartbeats 2000000
namespace Law
open PySem PySem.Spec L2 DL
/-! ### the tape -/
theorem tape {k : Nat} (ns : List Int) (hn : ns.length ≤ 63) (S : Sto) : Y (call (k + 1) i_law_tape [.frz (ns.map .int)] S) fun u S' => u = .loc S.length ∧ Tape S.length 0 S' ∧ S'.length = S.length + 1 := by
  refine y_run ?_
  show WS (b_law_tape (call k) [some (.frz (ns.map .int))] S) _
  unfold b_law_tape
  (repeat (first | with_reducible refine w_seq ?_ | with_reducible refine w_set ?_ | with_reducible refine w_expr ?_ | with_reducible refine w_ret ?_ | with_reducible refine w_retN ?_ | with_reducible refine w_store ?_ | with_reducible refine w_nop ?_ | with_reducible refine w_for ?_ | with_reducible refine w_asg ?_ | with_reducible refine w_ct ?_ | with_reducible refine w_brk ?_ | with_reducible refine y_f2 ?_ | with_reducible refine y_C ?_ | with_reducible refine y_var (by with_unfolding_all exact rfl) ?_ | with_reducible refine y_f1 ?_ | with_reducible refine y_B ?_ | with_reducible refine y_unB ?_ | with_reducible refine y_ch ?_ | with_reducible refine y_tru ?_ | with_reducible refine y_tbl ?_ | with_reducible refine y_and ?_ | with_reducible refine y_or ?_ | with_reducible refine y_not ?_ | with_reducible refine y_andV ?_ | with_reducible refine y_notV ?_ | with_reducible refine y_nil ?_ | with_reducible refine y_cons ?_ | with_reducible refine y_tup ?_ | with_reducible refine y_lst ?_ | with_reducible refine y_val ?_ | with_reducible refine y_loc ?_ | with_reducible refine y_dval ?_ | with_reducible refine y_dloc ?_ | with_reducible refine y_ice ?_ | with_reducible refine y_oNone ?_ | with_reducible refine y_oSome ?_ | with_reducible refine y_sl ?_ | with_reducible refine y_A ?_ | with_reducible refine y_call ?_ | with_reducible refine y_M ?_ | with_reducible refine y_aComp ?_ | with_reducible refine y_rng1 ?_ | with_reducible refine y_over ?_ | with_reducible refine y_addI ?_ | with_reducible refine y_subI ?_ | with_reducible refine y_ltI ?_ | with_reducible refine y_leI ?_ | with_reducible refine y_gtI ?_ | with_reducible refine y_geI ?_ | with_reducible refine y_eqI ?_ | with_reducible refine y_neI ?_ | with_reducible refine y_eqB ?_ | with_reducible refine y_neB ?_ | with_reducible refine y_eqS ?_ | with_reducible refine y_neS ?_ | with_reducible refine y_isN ?_ | with_reducible refine y_isnN ?_ | with_reducible refine y_wget ?_ | with_reducible refine And.intro (len_ok (by with_unfolding_all exact rfl)) ?_))
  refine Y.of (show dDisp _ _ _ = .ok ([.inr "cells", .inr "spot", .inr "left"], [.lst (cutU (ns.map .int) none (some 63)), .int 0, .int 0]) S from rfl) ?_
  refine ⟨rfl, ⟨ns, 0, 0, ?_, hn, by decide, by decide, by decide⟩, by simp⟩
  rw [show cutU (ns.map U.int) none (some 63) = ns.map .int from by rw [show (63 : Int) = ((63 : Nat) : Int) from rfl, cut_pre, List.take_of_length_le (by rw [List.length_map]; exact hn)]]
  exact sto_snoc

end Law

set_option Elab.async false
set_option linter.all false
set_option maxRecDepth 100000
set_option maxHeartbeats 2000000
namespace Law
open PySem PySem.Spec L2 DL
/-! ### the law -/
theorem law_holds (ns : List Int) (hn : ns.length ≤ 63) : ∃ S', call 60 i_law [.frz (ns.map .int)] [] = .ok (.bl true) S' := by
  suffices h : Y (call 60 i_law [.frz (ns.map .int)] []) fun u _ => u = .bl true by
    obtain ⟨u, S', e, rfl⟩ := h.ok
    exact ⟨S', e⟩
  refine y_run ?_
  show WS (b_law (call 59) [some (.frz (ns.map .int)), none, none, none, none, none, none, none] []) _
  unfold b_law
  (repeat (first | with_reducible refine w_seq ?_ | with_reducible refine w_set ?_ | with_reducible refine w_expr ?_ | with_reducible refine w_ret ?_ | with_reducible refine w_retN ?_ | with_reducible refine w_store ?_ | with_reducible refine w_nop ?_ | with_reducible refine w_for ?_ | with_reducible refine w_asg ?_ | with_reducible refine w_ct ?_ | with_reducible refine w_brk ?_ | with_reducible refine y_f2 ?_ | with_reducible refine y_C ?_ | with_reducible refine y_var (by with_unfolding_all exact rfl) ?_ | with_reducible refine y_f1 ?_ | with_reducible refine y_B ?_ | with_reducible refine y_unB ?_ | with_reducible refine y_ch ?_ | with_reducible refine y_tru ?_ | with_reducible refine y_tbl ?_ | with_reducible refine y_and ?_ | with_reducible refine y_or ?_ | with_reducible refine y_not ?_ | with_reducible refine y_andV ?_ | with_reducible refine y_notV ?_ | with_reducible refine y_nil ?_ | with_reducible refine y_cons ?_ | with_reducible refine y_tup ?_ | with_reducible refine y_lst ?_ | with_reducible refine y_val ?_ | with_reducible refine y_loc ?_ | with_reducible refine y_dval ?_ | with_reducible refine y_dloc ?_ | with_reducible refine y_ice ?_ | with_reducible refine y_oNone ?_ | with_reducible refine y_oSome ?_ | with_reducible refine y_sl ?_ | with_reducible refine y_A ?_ | with_reducible refine y_call ?_ | with_reducible refine y_M ?_ | with_reducible refine y_aComp ?_ | with_reducible refine y_rng1 ?_ | with_reducible refine y_over ?_ | with_reducible refine y_addI ?_ | with_reducible refine y_subI ?_ | with_reducible refine y_ltI ?_ | with_reducible refine y_leI ?_ | with_reducible refine y_gtI ?_ | with_reducible refine y_geI ?_ | with_reducible refine y_eqI ?_ | with_reducible refine y_neI ?_ | with_reducible refine y_eqB ?_ | with_reducible refine y_neB ?_ | with_reducible refine y_eqS ?_ | with_reducible refine y_neS ?_ | with_reducible refine y_isN ?_ | with_reducible refine y_isnN ?_ | with_reducible refine y_wget ?_ | with_reducible refine And.intro (len_ok (by with_unfolding_all exact rfl)) ?_))
  refine ⟨rfl, (tape (k := 58) ns hn []).mono ?_⟩
  rintro _ S0 ⟨rfl, t0, -⟩
  generalize List.length ([] : Sto) = n at t0 ⊢
  (repeat (first | with_reducible refine w_seq ?_ | with_reducible refine w_set ?_ | with_reducible refine w_expr ?_ | with_reducible refine w_ret ?_ | with_reducible refine w_retN ?_ | with_reducible refine w_store ?_ | with_reducible refine w_nop ?_ | with_reducible refine w_for ?_ | with_reducible refine w_asg ?_ | with_reducible refine w_ct ?_ | with_reducible refine w_brk ?_ | with_reducible refine y_f2 ?_ | with_reducible refine y_C ?_ | with_reducible refine y_var (by with_unfolding_all exact rfl) ?_ | with_reducible refine y_f1 ?_ | with_reducible refine y_B ?_ | with_reducible refine y_unB ?_ | with_reducible refine y_ch ?_ | with_reducible refine y_tru ?_ | with_reducible refine y_tbl ?_ | with_reducible refine y_and ?_ | with_reducible refine y_or ?_ | with_reducible refine y_not ?_ | with_reducible refine y_andV ?_ | with_reducible refine y_notV ?_ | with_reducible refine y_nil ?_ | with_reducible refine y_cons ?_ | with_reducible refine y_tup ?_ | with_reducible refine y_lst ?_ | with_reducible refine y_val ?_ | with_reducible refine y_loc ?_ | with_reducible refine y_dval ?_ | with_reducible refine y_dloc ?_ | with_reducible refine y_ice ?_ | with_reducible refine y_oNone ?_ | with_reducible refine y_oSome ?_ | with_reducible refine y_sl ?_ | with_reducible refine y_A ?_ | with_reducible refine y_call ?_ | with_reducible refine y_M ?_ | with_reducible refine y_aComp ?_ | with_reducible refine y_rng1 ?_ | with_reducible refine y_over ?_ | with_reducible refine y_addI ?_ | with_reducible refine y_subI ?_ | with_reducible refine y_ltI ?_ | with_reducible refine y_leI ?_ | with_reducible refine y_gtI ?_ | with_reducible refine y_geI ?_ | with_reducible refine y_eqI ?_ | with_reducible refine y_neI ?_ | with_reducible refine y_eqB ?_ | with_reducible refine y_neB ?_ | with_reducible refine y_eqS ?_ | with_reducible refine y_neS ?_ | with_reducible refine y_isN ?_ | with_reducible refine y_isnN ?_ | with_reducible refine y_wget ?_ | with_reducible refine And.intro (len_ok (by with_unfolding_all exact rfl)) ?_))
  refine ⟨rfl, (words (k := 57) (m := 4) t0 (by decide) (by decide)).mono ?_⟩
  rintro _ S1 ⟨ws, rfl, hws, hww, t1, f1⟩
  have hC : cst 25 = 6039797670 := by decide +kernel
  have hsay : ∀ w, w ∈ ws → PyData.strOk w = true ∧ w.length ≤ sizeLine := fun w h => ⟨(hww w h).1.ok, by have := (hww w h).2.2; rw [sizeL]; omega⟩
  (repeat (first | with_reducible refine w_seq ?_ | with_reducible refine w_set ?_ | with_reducible refine w_expr ?_ | with_reducible refine w_ret ?_ | with_reducible refine w_retN ?_ | with_reducible refine w_store ?_ | with_reducible refine w_nop ?_ | with_reducible refine w_for ?_ | with_reducible refine w_asg ?_ | with_reducible refine w_ct ?_ | with_reducible refine w_brk ?_ | with_reducible refine y_f2 ?_ | with_reducible refine y_C ?_ | with_reducible refine y_var (by with_unfolding_all exact rfl) ?_ | with_reducible refine y_f1 ?_ | with_reducible refine y_B ?_ | with_reducible refine y_unB ?_ | with_reducible refine y_ch ?_ | with_reducible refine y_tru ?_ | with_reducible refine y_tbl ?_ | with_reducible refine y_and ?_ | with_reducible refine y_or ?_ | with_reducible refine y_not ?_ | with_reducible refine y_andV ?_ | with_reducible refine y_notV ?_ | with_reducible refine y_nil ?_ | with_reducible refine y_cons ?_ | with_reducible refine y_tup ?_ | with_reducible refine y_lst ?_ | with_reducible refine y_val ?_ | with_reducible refine y_loc ?_ | with_reducible refine y_dval ?_ | with_reducible refine y_dloc ?_ | with_reducible refine y_ice ?_ | with_reducible refine y_oNone ?_ | with_reducible refine y_oSome ?_ | with_reducible refine y_sl ?_ | with_reducible refine y_A ?_ | with_reducible refine y_call ?_ | with_reducible refine y_M ?_ | with_reducible refine y_aComp ?_ | with_reducible refine y_rng1 ?_ | with_reducible refine y_over ?_ | with_reducible refine y_addI ?_ | with_reducible refine y_subI ?_ | with_reducible refine y_ltI ?_ | with_reducible refine y_leI ?_ | with_reducible refine y_gtI ?_ | with_reducible refine y_geI ?_ | with_reducible refine y_eqI ?_ | with_reducible refine y_neI ?_ | with_reducible refine y_eqB ?_ | with_reducible refine y_neB ?_ | with_reducible refine y_eqS ?_ | with_reducible refine y_neS ?_ | with_reducible refine y_isN ?_ | with_reducible refine y_isnN ?_ | with_reducible refine y_wget ?_ | with_reducible refine And.intro (len_ok (by with_unfolding_all exact rfl)) ?_))
  refine ⟨4, rfl, by decide, by decide, ?_⟩
  refine w_loop (fun us d S2 => ∃ (x3 x4 x5 x6 x7 : Option U), d = [some (.frz (ns.map .int)), some (.loc n), some (.lst (ws.map .str)), x3, x4, x5, x6, x7] ∧ us.length ≤ 4 ∧ Tape n (1000 + 7000000000 * (4 - us.length)) S2) ?_ ?_ _ _ _ ⟨_, _, _, _, _, rfl, by rw [rng_len]; decide, t1.mono (by rw [rng_len]; decide)⟩
  · rintro u us _ S2 ⟨x3, x4, x5, x6, x7, rfl, hu, t2⟩
    rw [List.length_cons] at hu t2
    refine ⟨_, rfl, ?_⟩
    (repeat (first | with_reducible refine w_seq ?_ | with_reducible refine w_set ?_ | with_reducible refine w_expr ?_ | with_reducible refine w_ret ?_ | with_reducible refine w_retN ?_ | with_reducible refine w_store ?_ | with_reducible refine w_nop ?_ | with_reducible refine w_for ?_ | with_reducible refine w_asg ?_ | with_reducible refine w_ct ?_ | with_reducible refine w_brk ?_ | with_reducible refine y_f2 ?_ | with_reducible refine y_C ?_ | with_reducible refine y_var (by with_unfolding_all exact rfl) ?_ | with_reducible refine y_f1 ?_ | with_reducible refine y_B ?_ | with_reducible refine y_unB ?_ | with_reducible refine y_ch ?_ | with_reducible refine y_tru ?_ | with_reducible refine y_tbl ?_ | with_reducible refine y_and ?_ | with_reducible refine y_or ?_ | with_reducible refine y_not ?_ | with_reducible refine y_andV ?_ | with_reducible refine y_notV ?_ | with_reducible refine y_nil ?_ | with_reducible refine y_cons ?_ | with_reducible refine y_tup ?_ | with_reducible refine y_lst ?_ | with_reducible refine y_val ?_ | with_reducible refine y_loc ?_ | with_reducible refine y_dval ?_ | with_reducible refine y_dloc ?_ | with_reducible refine y_ice ?_ | with_reducible refine y_oNone ?_ | with_reducible refine y_oSome ?_ | with_reducible refine y_sl ?_ | with_reducible refine y_A ?_ | with_reducible refine y_call ?_ | with_reducible refine y_M ?_ | with_reducible refine y_aComp ?_ | with_reducible refine y_rng1 ?_ | with_reducible refine y_over ?_ | with_reducible refine y_addI ?_ | with_reducible refine y_subI ?_ | with_reducible refine y_ltI ?_ | with_reducible refine y_leI ?_ | with_reducible refine y_gtI ?_ | with_reducible refine y_geI ?_ | with_reducible refine y_eqI ?_ | with_reducible refine y_neI ?_ | with_reducible refine y_eqB ?_ | with_reducible refine y_neB ?_ | with_reducible refine y_eqS ?_ | with_reducible refine y_neS ?_ | with_reducible refine y_isN ?_ | with_reducible refine y_isnN ?_ | with_reducible refine y_wget ?_ | with_reducible refine And.intro (len_ok (by with_unfolding_all exact rfl)) ?_))
    refine ⟨rfl, (draw t2 (by omega) (by first | decide | omega) (by first | decide | omega)).mono ?_⟩; rintro _ S3 ⟨r3, rfl, r30, r31, t3, l3, f3⟩
    refine y_ixL r30 r31 fun L hL _ => ?_
    obtain ⟨L, rfl⟩ : ∃ i : Int, L = .int i := by
      simp only [List.mem_cons, List.mem_nil_iff, or_false] at hL
      rcases hL with rfl | rfl | rfl <;> exact ⟨_, rfl⟩
    (repeat (first | with_reducible refine w_seq ?_ | with_reducible refine w_set ?_ | with_reducible refine w_expr ?_ | with_reducible refine w_ret ?_ | with_reducible refine w_retN ?_ | with_reducible refine w_store ?_ | with_reducible refine w_nop ?_ | with_reducible refine w_for ?_ | with_reducible refine w_asg ?_ | with_reducible refine w_ct ?_ | with_reducible refine w_brk ?_ | with_reducible refine y_f2 ?_ | with_reducible refine y_C ?_ | with_reducible refine y_var (by with_unfolding_all exact rfl) ?_ | with_reducible refine y_f1 ?_ | with_reducible refine y_B ?_ | with_reducible refine y_unB ?_ | with_reducible refine y_ch ?_ | with_reducible refine y_tru ?_ | with_reducible refine y_tbl ?_ | with_reducible refine y_and ?_ | with_reducible refine y_or ?_ | with_reducible refine y_not ?_ | with_reducible refine y_andV ?_ | with_reducible refine y_notV ?_ | with_reducible refine y_nil ?_ | with_reducible refine y_cons ?_ | with_reducible refine y_tup ?_ | with_reducible refine y_lst ?_ | with_reducible refine y_val ?_ | with_reducible refine y_loc ?_ | with_reducible refine y_dval ?_ | with_reducible refine y_dloc ?_ | with_reducible refine y_ice ?_ | with_reducible refine y_oNone ?_ | with_reducible refine y_oSome ?_ | with_reducible refine y_sl ?_ | with_reducible refine y_A ?_ | with_reducible refine y_call ?_ | with_reducible refine y_M ?_ | with_reducible refine y_aComp ?_ | with_reducible refine y_rng1 ?_ | with_reducible refine y_over ?_ | with_reducible refine y_addI ?_ | with_reducible refine y_subI ?_ | with_reducible refine y_ltI ?_ | with_reducible refine y_leI ?_ | with_reducible refine y_gtI ?_ | with_reducible refine y_geI ?_ | with_reducible refine y_eqI ?_ | with_reducible refine y_neI ?_ | with_reducible refine y_eqB ?_ | with_reducible refine y_neB ?_ | with_reducible refine y_eqS ?_ | with_reducible refine y_neS ?_ | with_reducible refine y_isN ?_ | with_reducible refine y_isnN ?_ | with_reducible refine y_wget ?_ | with_reducible refine And.intro (len_ok (by with_unfolding_all exact rfl)) ?_))
    have t4 : Tape n (1000 + 7000000000 * (4 - ((us.length + 1 : Nat) : Int)) + 30) (S3 ++ [.lst [.int L]]) := t3.fr (ms := []) Fr.push (by simp)
    have hf4 : (S3 ++ [Ob.lst [.int L]])[S3.length]? = some (.lst [.int L]) := sto_snoc
    have hnf : n ≠ S3.length := by have := t3.lt; omega
    generalize S3 ++ [Ob.lst [.int L]] = S4 at t4 hf4 ⊢
    generalize S3.length = f at hf4 hnf ⊢
    generalize hb : (1000 + 7000000000 * (4 - ((us.length + 1 : Nat) : Int)) + 30) = b at t4
    have hb2 : b + 6999999000 ≤ 1000 + 7000000000 * (4 - (us.length : Int)) := by omega
    have hb3 : b ≤ 30000000000 := by omega
    clear hb
    refine ⟨rfl, (saying (ws := ws) hnf (by omega) (by omega) 25 32 t4 (by omega) hf4).mono ?_⟩
    rintro _ S5 ⟨x, L', rfl, hx, hxd, -, -, -, t5, -⟩
    rw [hC] at t5
    have px : Pl 3 25 x.u := (Say.pl (hx.mono hsay)).up (by omega)
    (repeat (first | with_reducible refine w_seq ?_ | with_reducible refine w_set ?_ | with_reducible refine w_expr ?_ | with_reducible refine w_ret ?_ | with_reducible refine w_retN ?_ | with_reducible refine w_store ?_ | with_reducible refine w_nop ?_ | with_reducible refine w_for ?_ | with_reducible refine w_asg ?_ | with_reducible refine w_ct ?_ | with_reducible refine w_brk ?_ | with_reducible refine y_f2 ?_ | with_reducible refine y_C ?_ | with_reducible refine y_var (by with_unfolding_all exact rfl) ?_ | with_reducible refine y_f1 ?_ | with_reducible refine y_B ?_ | with_reducible refine y_unB ?_ | with_reducible refine y_ch ?_ | with_reducible refine y_tru ?_ | with_reducible refine y_tbl ?_ | with_reducible refine y_and ?_ | with_reducible refine y_or ?_ | with_reducible refine y_not ?_ | with_reducible refine y_andV ?_ | with_reducible refine y_notV ?_ | with_reducible refine y_nil ?_ | with_reducible refine y_cons ?_ | with_reducible refine y_tup ?_ | with_reducible refine y_lst ?_ | with_reducible refine y_val ?_ | with_reducible refine y_loc ?_ | with_reducible refine y_dval ?_ | with_reducible refine y_dloc ?_ | with_reducible refine y_ice ?_ | with_reducible refine y_oNone ?_ | with_reducible refine y_oSome ?_ | with_reducible refine y_sl ?_ | with_reducible refine y_A ?_ | with_reducible refine y_call ?_ | with_reducible refine y_M ?_ | with_reducible refine y_aComp ?_ | with_reducible refine y_rng1 ?_ | with_reducible refine y_over ?_ | with_reducible refine y_addI ?_ | with_reducible refine y_subI ?_ | with_reducible refine y_ltI ?_ | with_reducible refine y_leI ?_ | with_reducible refine y_gtI ?_ | with_reducible refine y_geI ?_ | with_reducible refine y_eqI ?_ | with_reducible refine y_neI ?_ | with_reducible refine y_eqB ?_ | with_reducible refine y_neB ?_ | with_reducible refine y_eqS ?_ | with_reducible refine y_neS ?_ | with_reducible refine y_isN ?_ | with_reducible refine y_isnN ?_ | with_reducible refine y_wget ?_ | with_reducible refine And.intro (len_ok (by with_unfolding_all exact rfl)) ?_))
    refine ⟨rfl, (bent (c := 3) (by decide) (by decide) 25 31 (by decide) t5 (by omega) px).mono ?_⟩
    rintro y1 S6 ⟨p1, t6, -⟩
    (repeat (first | with_reducible refine w_seq ?_ | with_reducible refine w_set ?_ | with_reducible refine w_expr ?_ | with_reducible refine w_ret ?_ | with_reducible refine w_retN ?_ | with_reducible refine w_store ?_ | with_reducible refine w_nop ?_ | with_reducible refine w_for ?_ | with_reducible refine w_asg ?_ | with_reducible refine w_ct ?_ | with_reducible refine w_brk ?_ | with_reducible refine y_f2 ?_ | with_reducible refine y_C ?_ | with_reducible refine y_var (by with_unfolding_all exact rfl) ?_ | with_reducible refine y_f1 ?_ | with_reducible refine y_B ?_ | with_reducible refine y_unB ?_ | with_reducible refine y_ch ?_ | with_reducible refine y_tru ?_ | with_reducible refine y_tbl ?_ | with_reducible refine y_and ?_ | with_reducible refine y_or ?_ | with_reducible refine y_not ?_ | with_reducible refine y_andV ?_ | with_reducible refine y_notV ?_ | with_reducible refine y_nil ?_ | with_reducible refine y_cons ?_ | with_reducible refine y_tup ?_ | with_reducible refine y_lst ?_ | with_reducible refine y_val ?_ | with_reducible refine y_loc ?_ | with_reducible refine y_dval ?_ | with_reducible refine y_dloc ?_ | with_reducible refine y_ice ?_ | with_reducible refine y_oNone ?_ | with_reducible refine y_oSome ?_ | with_reducible refine y_sl ?_ | with_reducible refine y_A ?_ | with_reducible refine y_call ?_ | with_reducible refine y_M ?_ | with_reducible refine y_aComp ?_ | with_reducible refine y_rng1 ?_ | with_reducible refine y_over ?_ | with_reducible refine y_addI ?_ | with_reducible refine y_subI ?_ | with_reducible refine y_ltI ?_ | with_reducible refine y_leI ?_ | with_reducible refine y_gtI ?_ | with_reducible refine y_geI ?_ | with_reducible refine y_eqI ?_ | with_reducible refine y_neI ?_ | with_reducible refine y_eqB ?_ | with_reducible refine y_neB ?_ | with_reducible refine y_eqS ?_ | with_reducible refine y_neS ?_ | with_reducible refine y_isN ?_ | with_reducible refine y_isnN ?_ | with_reducible refine y_wget ?_ | with_reducible refine And.intro (len_ok (by with_unfolding_all exact rfl)) ?_))
    refine y_ixW (by decide) (by omega) fun w0 hw0 _ => ?_
    (repeat (first | with_reducible refine w_seq ?_ | with_reducible refine w_set ?_ | with_reducible refine w_expr ?_ | with_reducible refine w_ret ?_ | with_reducible refine w_retN ?_ | with_reducible refine w_store ?_ | with_reducible refine w_nop ?_ | with_reducible refine w_for ?_ | with_reducible refine w_asg ?_ | with_reducible refine w_ct ?_ | with_reducible refine w_brk ?_ | with_reducible refine y_f2 ?_ | with_reducible refine y_C ?_ | with_reducible refine y_var (by with_unfolding_all exact rfl) ?_ | with_reducible refine y_f1 ?_ | with_reducible refine y_B ?_ | with_reducible refine y_unB ?_ | with_reducible refine y_ch ?_ | with_reducible refine y_tru ?_ | with_reducible refine y_tbl ?_ | with_reducible refine y_and ?_ | with_reducible refine y_or ?_ | with_reducible refine y_not ?_ | with_reducible refine y_andV ?_ | with_reducible refine y_notV ?_ | with_reducible refine y_nil ?_ | with_reducible refine y_cons ?_ | with_reducible refine y_tup ?_ | with_reducible refine y_lst ?_ | with_reducible refine y_val ?_ | with_reducible refine y_loc ?_ | with_reducible refine y_dval ?_ | with_reducible refine y_dloc ?_ | with_reducible refine y_ice ?_ | with_reducible refine y_oNone ?_ | with_reducible refine y_oSome ?_ | with_reducible refine y_sl ?_ | with_reducible refine y_A ?_ | with_reducible refine y_call ?_ | with_reducible refine y_M ?_ | with_reducible refine y_aComp ?_ | with_reducible refine y_rng1 ?_ | with_reducible refine y_over ?_ | with_reducible refine y_addI ?_ | with_reducible refine y_subI ?_ | with_reducible refine y_ltI ?_ | with_reducible refine y_leI ?_ | with_reducible refine y_gtI ?_ | with_reducible refine y_geI ?_ | with_reducible refine y_eqI ?_ | with_reducible refine y_neI ?_ | with_reducible refine y_eqB ?_ | with_reducible refine y_neB ?_ | with_reducible refine y_eqS ?_ | with_reducible refine y_neS ?_ | with_reducible refine y_isN ?_ | with_reducible refine y_isnN ?_ | with_reducible refine y_wget ?_ | with_reducible refine And.intro (len_ok (by with_unfolding_all exact rfl)) ?_))
    refine ⟨rfl, (long (k := 57) t6 (by omega) (hsay w0 hw0)).mono ?_⟩
    rintro y2 S7 ⟨p2, t7, -⟩
    (repeat (first | with_reducible refine w_seq ?_ | with_reducible refine w_set ?_ | with_reducible refine w_expr ?_ | with_reducible refine w_ret ?_ | with_reducible refine w_retN ?_ | with_reducible refine w_store ?_ | with_reducible refine w_nop ?_ | with_reducible refine w_for ?_ | with_reducible refine w_asg ?_ | with_reducible refine w_ct ?_ | with_reducible refine w_brk ?_ | with_reducible refine y_f2 ?_ | with_reducible refine y_C ?_ | with_reducible refine y_var (by with_unfolding_all exact rfl) ?_ | with_reducible refine y_f1 ?_ | with_reducible refine y_B ?_ | with_reducible refine y_unB ?_ | with_reducible refine y_ch ?_ | with_reducible refine y_tru ?_ | with_reducible refine y_tbl ?_ | with_reducible refine y_and ?_ | with_reducible refine y_or ?_ | with_reducible refine y_not ?_ | with_reducible refine y_andV ?_ | with_reducible refine y_notV ?_ | with_reducible refine y_nil ?_ | with_reducible refine y_cons ?_ | with_reducible refine y_tup ?_ | with_reducible refine y_lst ?_ | with_reducible refine y_val ?_ | with_reducible refine y_loc ?_ | with_reducible refine y_dval ?_ | with_reducible refine y_dloc ?_ | with_reducible refine y_ice ?_ | with_reducible refine y_oNone ?_ | with_reducible refine y_oSome ?_ | with_reducible refine y_sl ?_ | with_reducible refine y_A ?_ | with_reducible refine y_call ?_ | with_reducible refine y_M ?_ | with_reducible refine y_aComp ?_ | with_reducible refine y_rng1 ?_ | with_reducible refine y_over ?_ | with_reducible refine y_addI ?_ | with_reducible refine y_subI ?_ | with_reducible refine y_ltI ?_ | with_reducible refine y_leI ?_ | with_reducible refine y_gtI ?_ | with_reducible refine y_geI ?_ | with_reducible refine y_eqI ?_ | with_reducible refine y_neI ?_ | with_reducible refine y_eqB ?_ | with_reducible refine y_neB ?_ | with_reducible refine y_eqS ?_ | with_reducible refine y_neS ?_ | with_reducible refine y_isN ?_ | with_reducible refine y_isnN ?_ | with_reducible refine y_wget ?_ | with_reducible refine And.intro (len_ok (by with_unfolding_all exact rfl)) ?_))
    refine ⟨rfl, (bent (c := 3) (by decide) (by decide) 25 31 (by decide) t7 (by omega) px).mono ?_⟩
    rintro y3 S8 ⟨p3, t8, -⟩
    (repeat (first | with_reducible refine w_seq ?_ | with_reducible refine w_set ?_ | with_reducible refine w_expr ?_ | with_reducible refine w_ret ?_ | with_reducible refine w_retN ?_ | with_reducible refine w_store ?_ | with_reducible refine w_nop ?_ | with_reducible refine w_for ?_ | with_reducible refine w_asg ?_ | with_reducible refine w_ct ?_ | with_reducible refine w_brk ?_ | with_reducible refine y_f2 ?_ | with_reducible refine y_C ?_ | with_reducible refine y_var (by with_unfolding_all exact rfl) ?_ | with_reducible refine y_f1 ?_ | with_reducible refine y_B ?_ | with_reducible refine y_unB ?_ | with_reducible refine y_ch ?_ | with_reducible refine y_tru ?_ | with_reducible refine y_tbl ?_ | with_reducible refine y_and ?_ | with_reducible refine y_or ?_ | with_reducible refine y_not ?_ | with_reducible refine y_andV ?_ | with_reducible refine y_notV ?_ | with_reducible refine y_nil ?_ | with_reducible refine y_cons ?_ | with_reducible refine y_tup ?_ | with_reducible refine y_lst ?_ | with_reducible refine y_val ?_ | with_reducible refine y_loc ?_ | with_reducible refine y_dval ?_ | with_reducible refine y_dloc ?_ | with_reducible refine y_ice ?_ | with_reducible refine y_oNone ?_ | with_reducible refine y_oSome ?_ | with_reducible refine y_sl ?_ | with_reducible refine y_A ?_ | with_reducible refine y_call ?_ | with_reducible refine y_M ?_ | with_reducible refine y_aComp ?_ | with_reducible refine y_rng1 ?_ | with_reducible refine y_over ?_ | with_reducible refine y_addI ?_ | with_reducible refine y_subI ?_ | with_reducible refine y_ltI ?_ | with_reducible refine y_leI ?_ | with_reducible refine y_gtI ?_ | with_reducible refine y_geI ?_ | with_reducible refine y_eqI ?_ | with_reducible refine y_neI ?_ | with_reducible refine y_eqB ?_ | with_reducible refine y_neB ?_ | with_reducible refine y_eqS ?_ | with_reducible refine y_neS ?_ | with_reducible refine y_isN ?_ | with_reducible refine y_isnN ?_ | with_reducible refine y_wget ?_ | with_reducible refine And.intro (len_ok (by with_unfolding_all exact rfl)) ?_))
    refine ⟨rfl, (bent (c := 4) (by decide) (by decide) 28 28 (by decide) t8 (by omega) p3).mono ?_⟩
    rintro y4 S9 ⟨p4, t9, -⟩
    (repeat (first | with_reducible refine w_seq ?_ | with_reducible refine w_set ?_ | with_reducible refine w_expr ?_ | with_reducible refine w_ret ?_ | with_reducible refine w_retN ?_ | with_reducible refine w_store ?_ | with_reducible refine w_nop ?_ | with_reducible refine w_for ?_ | with_reducible refine w_asg ?_ | with_reducible refine w_ct ?_ | with_reducible refine w_brk ?_ | with_reducible refine y_f2 ?_ | with_reducible refine y_C ?_ | with_reducible refine y_var (by with_unfolding_all exact rfl) ?_ | with_reducible refine y_f1 ?_ | with_reducible refine y_B ?_ | with_reducible refine y_unB ?_ | with_reducible refine y_ch ?_ | with_reducible refine y_tru ?_ | with_reducible refine y_tbl ?_ | with_reducible refine y_and ?_ | with_reducible refine y_or ?_ | with_reducible refine y_not ?_ | with_reducible refine y_andV ?_ | with_reducible refine y_notV ?_ | with_reducible refine y_nil ?_ | with_reducible refine y_cons ?_ | with_reducible refine y_tup ?_ | with_reducible refine y_lst ?_ | with_reducible refine y_val ?_ | with_reducible refine y_loc ?_ | with_reducible refine y_dval ?_ | with_reducible refine y_dloc ?_ | with_reducible refine y_ice ?_ | with_reducible refine y_oNone ?_ | with_reducible refine y_oSome ?_ | with_reducible refine y_sl ?_ | with_reducible refine y_A ?_ | with_reducible refine y_call ?_ | with_reducible refine y_M ?_ | with_reducible refine y_aComp ?_ | with_reducible refine y_rng1 ?_ | with_reducible refine y_over ?_ | with_reducible refine y_addI ?_ | with_reducible refine y_subI ?_ | with_reducible refine y_ltI ?_ | with_reducible refine y_leI ?_ | with_reducible refine y_gtI ?_ | with_reducible refine y_geI ?_ | with_reducible refine y_eqI ?_ | with_reducible refine y_neI ?_ | with_reducible refine y_eqB ?_ | with_reducible refine y_neB ?_ | with_reducible refine y_eqS ?_ | with_reducible refine y_neS ?_ | with_reducible refine y_isN ?_ | with_reducible refine y_isnN ?_ | with_reducible refine y_wget ?_ | with_reducible refine And.intro (len_ok (by with_unfolding_all exact rfl)) ?_))
    refine y_ixW (by decide) (by omega) fun w1 hw1 _ => ?_
    (repeat (first | with_reducible refine w_seq ?_ | with_reducible refine w_set ?_ | with_reducible refine w_expr ?_ | with_reducible refine w_ret ?_ | with_reducible refine w_retN ?_ | with_reducible refine w_store ?_ | with_reducible refine w_nop ?_ | with_reducible refine w_for ?_ | with_reducible refine w_asg ?_ | with_reducible refine w_ct ?_ | with_reducible refine w_brk ?_ | with_reducible refine y_f2 ?_ | with_reducible refine y_C ?_ | with_reducible refine y_var (by with_unfolding_all exact rfl) ?_ | with_reducible refine y_f1 ?_ | with_reducible refine y_B ?_ | with_reducible refine y_unB ?_ | with_reducible refine y_ch ?_ | with_reducible refine y_tru ?_ | with_reducible refine y_tbl ?_ | with_reducible refine y_and ?_ | with_reducible refine y_or ?_ | with_reducible refine y_not ?_ | with_reducible refine y_andV ?_ | with_reducible refine y_notV ?_ | with_reducible refine y_nil ?_ | with_reducible refine y_cons ?_ | with_reducible refine y_tup ?_ | with_reducible refine y_lst ?_ | with_reducible refine y_val ?_ | with_reducible refine y_loc ?_ | with_reducible refine y_dval ?_ | with_reducible refine y_dloc ?_ | with_reducible refine y_ice ?_ | with_reducible refine y_oNone ?_ | with_reducible refine y_oSome ?_ | with_reducible refine y_sl ?_ | with_reducible refine y_A ?_ | with_reducible refine y_call ?_ | with_reducible refine y_M ?_ | with_reducible refine y_aComp ?_ | with_reducible refine y_rng1 ?_ | with_reducible refine y_over ?_ | with_reducible refine y_addI ?_ | with_reducible refine y_subI ?_ | with_reducible refine y_ltI ?_ | with_reducible refine y_leI ?_ | with_reducible refine y_gtI ?_ | with_reducible refine y_geI ?_ | with_reducible refine y_eqI ?_ | with_reducible refine y_neI ?_ | with_reducible refine y_eqB ?_ | with_reducible refine y_neB ?_ | with_reducible refine y_eqS ?_ | with_reducible refine y_neS ?_ | with_reducible refine y_isN ?_ | with_reducible refine y_isnN ?_ | with_reducible refine y_wget ?_ | with_reducible refine And.intro (len_ok (by with_unfolding_all exact rfl)) ?_))
    refine y_addL (len_ok (by with_unfolding_all exact rfl)) ?_
    refine ⟨_, rfl, ?_⟩
    have t9 : Tape n (1000 + 7000000000 * (4 - (us.length : Int))) S9 := t9.mono (by omega)
    refine w_loop (fun vs d S' => S' = S9 ∧ (∀ v ∈ vs, Pl 5 31 v) ∧ ∃ (x3 x4 x5 x6 x7 : Option U), d = [some (.frz (ns.map .int)), some (.loc n), some (.lst (ws.map .str)), x3, x4, x5, x6, x7]) ?_ ?_ _ _ _ ⟨rfl, ?_, _, _, _, _, _, rfl⟩
    · rintro v vs _ S' ⟨eS, hv, x3, x4, x5, x6, x7, rfl⟩
      subst eS
      have pv := hv v List.mem_cons_self
      have hv := fun u h => hv u (List.mem_cons_of_mem _ h)
      refine ⟨_, rfl, ?_⟩
      (repeat (first | with_reducible refine w_seq ?_ | with_reducible refine w_set ?_ | with_reducible refine w_expr ?_ | with_reducible refine w_ret ?_ | with_reducible refine w_retN ?_ | with_reducible refine w_store ?_ | with_reducible refine w_nop ?_ | with_reducible refine w_for ?_ | with_reducible refine w_asg ?_ | with_reducible refine w_ct ?_ | with_reducible refine w_brk ?_ | with_reducible refine y_f2 ?_ | with_reducible refine y_C ?_ | with_reducible refine y_var (by with_unfolding_all exact rfl) ?_ | with_reducible refine y_f1 ?_ | with_reducible refine y_B ?_ | with_reducible refine y_unB ?_ | with_reducible refine y_ch ?_ | with_reducible refine y_tru ?_ | with_reducible refine y_tbl ?_ | with_reducible refine y_and ?_ | with_reducible refine y_or ?_ | with_reducible refine y_not ?_ | with_reducible refine y_andV ?_ | with_reducible refine y_notV ?_ | with_reducible refine y_nil ?_ | with_reducible refine y_cons ?_ | with_reducible refine y_tup ?_ | with_reducible refine y_lst ?_ | with_reducible refine y_val ?_ | with_reducible refine y_loc ?_ | with_reducible refine y_dval ?_ | with_reducible refine y_dloc ?_ | with_reducible refine y_ice ?_ | with_reducible refine y_oNone ?_ | with_reducible refine y_oSome ?_ | with_reducible refine y_sl ?_ | with_reducible refine y_A ?_ | with_reducible refine y_call ?_ | with_reducible refine y_M ?_ | with_reducible refine y_aComp ?_ | with_reducible refine y_rng1 ?_ | with_reducible refine y_over ?_ | with_reducible refine y_addI ?_ | with_reducible refine y_subI ?_ | with_reducible refine y_ltI ?_ | with_reducible refine y_leI ?_ | with_reducible refine y_gtI ?_ | with_reducible refine y_geI ?_ | with_reducible refine y_eqI ?_ | with_reducible refine y_neI ?_ | with_reducible refine y_eqB ?_ | with_reducible refine y_neB ?_ | with_reducible refine y_eqS ?_ | with_reducible refine y_neS ?_ | with_reducible refine y_isN ?_ | with_reducible refine y_isnN ?_ | with_reducible refine y_wget ?_ | with_reducible refine And.intro (len_ok (by with_unfolding_all exact rfl)) ?_))
      refine ⟨rfl, (is_saying (k := 31) pv).mono ?_⟩
      rintro _ _ ⟨rfl, rfl⟩
      (repeat (first | with_reducible refine w_seq ?_ | with_reducible refine w_set ?_ | with_reducible refine w_expr ?_ | with_reducible refine w_ret ?_ | with_reducible refine w_retN ?_ | with_reducible refine w_store ?_ | with_reducible refine w_nop ?_ | with_reducible refine w_for ?_ | with_reducible refine w_asg ?_ | with_reducible refine w_ct ?_ | with_reducible refine w_brk ?_ | with_reducible refine y_f2 ?_ | with_reducible refine y_C ?_ | with_reducible refine y_var (by with_unfolding_all exact rfl) ?_ | with_reducible refine y_f1 ?_ | with_reducible refine y_B ?_ | with_reducible refine y_unB ?_ | with_reducible refine y_ch ?_ | with_reducible refine y_tru ?_ | with_reducible refine y_tbl ?_ | with_reducible refine y_and ?_ | with_reducible refine y_or ?_ | with_reducible refine y_not ?_ | with_reducible refine y_andV ?_ | with_reducible refine y_notV ?_ | with_reducible refine y_nil ?_ | with_reducible refine y_cons ?_ | with_reducible refine y_tup ?_ | with_reducible refine y_lst ?_ | with_reducible refine y_val ?_ | with_reducible refine y_loc ?_ | with_reducible refine y_dval ?_ | with_reducible refine y_dloc ?_ | with_reducible refine y_ice ?_ | with_reducible refine y_oNone ?_ | with_reducible refine y_oSome ?_ | with_reducible refine y_sl ?_ | with_reducible refine y_A ?_ | with_reducible refine y_call ?_ | with_reducible refine y_M ?_ | with_reducible refine y_aComp ?_ | with_reducible refine y_rng1 ?_ | with_reducible refine y_over ?_ | with_reducible refine y_addI ?_ | with_reducible refine y_subI ?_ | with_reducible refine y_ltI ?_ | with_reducible refine y_leI ?_ | with_reducible refine y_gtI ?_ | with_reducible refine y_geI ?_ | with_reducible refine y_eqI ?_ | with_reducible refine y_neI ?_ | with_reducible refine y_eqB ?_ | with_reducible refine y_neB ?_ | with_reducible refine y_eqS ?_ | with_reducible refine y_neS ?_ | with_reducible refine y_isN ?_ | with_reducible refine y_isnN ?_ | with_reducible refine y_wget ?_ | with_reducible refine And.intro (len_ok (by with_unfolding_all exact rfl)) ?_))
      refine w_ifP (fun b => b = false) ?_ (fun h => by cases h) (fun _ => ?_)
      · (repeat (first | with_reducible refine w_seq ?_ | with_reducible refine w_set ?_ | with_reducible refine w_expr ?_ | with_reducible refine w_ret ?_ | with_reducible refine w_retN ?_ | with_reducible refine w_store ?_ | with_reducible refine w_nop ?_ | with_reducible refine w_for ?_ | with_reducible refine w_asg ?_ | with_reducible refine w_ct ?_ | with_reducible refine w_brk ?_ | with_reducible refine y_f2 ?_ | with_reducible refine y_C ?_ | with_reducible refine y_var (by with_unfolding_all exact rfl) ?_ | with_reducible refine y_f1 ?_ | with_reducible refine y_B ?_ | with_reducible refine y_unB ?_ | with_reducible refine y_ch ?_ | with_reducible refine y_tru ?_ | with_reducible refine y_tbl ?_ | with_reducible refine y_and ?_ | with_reducible refine y_or ?_ | with_reducible refine y_not ?_ | with_reducible refine y_andV ?_ | with_reducible refine y_notV ?_ | with_reducible refine y_nil ?_ | with_reducible refine y_cons ?_ | with_reducible refine y_tup ?_ | with_reducible refine y_lst ?_ | with_reducible refine y_val ?_ | with_reducible refine y_loc ?_ | with_reducible refine y_dval ?_ | with_reducible refine y_dloc ?_ | with_reducible refine y_ice ?_ | with_reducible refine y_oNone ?_ | with_reducible refine y_oSome ?_ | with_reducible refine y_sl ?_ | with_reducible refine y_A ?_ | with_reducible refine y_call ?_ | with_reducible refine y_M ?_ | with_reducible refine y_aComp ?_ | with_reducible refine y_rng1 ?_ | with_reducible refine y_over ?_ | with_reducible refine y_addI ?_ | with_reducible refine y_subI ?_ | with_reducible refine y_ltI ?_ | with_reducible refine y_leI ?_ | with_reducible refine y_gtI ?_ | with_reducible refine y_geI ?_ | with_reducible refine y_eqI ?_ | with_reducible refine y_neI ?_ | with_reducible refine y_eqB ?_ | with_reducible refine y_neB ?_ | with_reducible refine y_eqS ?_ | with_reducible refine y_neS ?_ | with_reducible refine y_isN ?_ | with_reducible refine y_isnN ?_ | with_reducible refine y_wget ?_ | with_reducible refine And.intro (len_ok (by with_unfolding_all exact rfl)) ?_))
        refine Y.of (show isiC [.bl _, .ty "bool"] _ = .ok (.bl true) _ from rfl) ?_
        (repeat (first | with_reducible refine w_seq ?_ | with_reducible refine w_set ?_ | with_reducible refine w_expr ?_ | with_reducible refine w_ret ?_ | with_reducible refine w_retN ?_ | with_reducible refine w_store ?_ | with_reducible refine w_nop ?_ | with_reducible refine w_for ?_ | with_reducible refine w_asg ?_ | with_reducible refine w_ct ?_ | with_reducible refine w_brk ?_ | with_reducible refine y_f2 ?_ | with_reducible refine y_C ?_ | with_reducible refine y_var (by with_unfolding_all exact rfl) ?_ | with_reducible refine y_f1 ?_ | with_reducible refine y_B ?_ | with_reducible refine y_unB ?_ | with_reducible refine y_ch ?_ | with_reducible refine y_tru ?_ | with_reducible refine y_tbl ?_ | with_reducible refine y_and ?_ | with_reducible refine y_or ?_ | with_reducible refine y_not ?_ | with_reducible refine y_andV ?_ | with_reducible refine y_notV ?_ | with_reducible refine y_nil ?_ | with_reducible refine y_cons ?_ | with_reducible refine y_tup ?_ | with_reducible refine y_lst ?_ | with_reducible refine y_val ?_ | with_reducible refine y_loc ?_ | with_reducible refine y_dval ?_ | with_reducible refine y_dloc ?_ | with_reducible refine y_ice ?_ | with_reducible refine y_oNone ?_ | with_reducible refine y_oSome ?_ | with_reducible refine y_sl ?_ | with_reducible refine y_A ?_ | with_reducible refine y_call ?_ | with_reducible refine y_M ?_ | with_reducible refine y_aComp ?_ | with_reducible refine y_rng1 ?_ | with_reducible refine y_over ?_ | with_reducible refine y_addI ?_ | with_reducible refine y_subI ?_ | with_reducible refine y_ltI ?_ | with_reducible refine y_leI ?_ | with_reducible refine y_gtI ?_ | with_reducible refine y_geI ?_ | with_reducible refine y_eqI ?_ | with_reducible refine y_neI ?_ | with_reducible refine y_eqB ?_ | with_reducible refine y_neB ?_ | with_reducible refine y_eqS ?_ | with_reducible refine y_neS ?_ | with_reducible refine y_isN ?_ | with_reducible refine y_isnN ?_ | with_reducible refine y_wget ?_ | with_reducible refine And.intro (len_ok (by with_unfolding_all exact rfl)) ?_))
        refine ite_b (fun c => by cases c) (fun _ => ?_)
        (repeat (first | with_reducible refine w_seq ?_ | with_reducible refine w_set ?_ | with_reducible refine w_expr ?_ | with_reducible refine w_ret ?_ | with_reducible refine w_retN ?_ | with_reducible refine w_store ?_ | with_reducible refine w_nop ?_ | with_reducible refine w_for ?_ | with_reducible refine w_asg ?_ | with_reducible refine w_ct ?_ | with_reducible refine w_brk ?_ | with_reducible refine y_f2 ?_ | with_reducible refine y_C ?_ | with_reducible refine y_var (by with_unfolding_all exact rfl) ?_ | with_reducible refine y_f1 ?_ | with_reducible refine y_B ?_ | with_reducible refine y_unB ?_ | with_reducible refine y_ch ?_ | with_reducible refine y_tru ?_ | with_reducible refine y_tbl ?_ | with_reducible refine y_and ?_ | with_reducible refine y_or ?_ | with_reducible refine y_not ?_ | with_reducible refine y_andV ?_ | with_reducible refine y_notV ?_ | with_reducible refine y_nil ?_ | with_reducible refine y_cons ?_ | with_reducible refine y_tup ?_ | with_reducible refine y_lst ?_ | with_reducible refine y_val ?_ | with_reducible refine y_loc ?_ | with_reducible refine y_dval ?_ | with_reducible refine y_dloc ?_ | with_reducible refine y_ice ?_ | with_reducible refine y_oNone ?_ | with_reducible refine y_oSome ?_ | with_reducible refine y_sl ?_ | with_reducible refine y_A ?_ | with_reducible refine y_call ?_ | with_reducible refine y_M ?_ | with_reducible refine y_aComp ?_ | with_reducible refine y_rng1 ?_ | with_reducible refine y_over ?_ | with_reducible refine y_addI ?_ | with_reducible refine y_subI ?_ | with_reducible refine y_ltI ?_ | with_reducible refine y_leI ?_ | with_reducible refine y_gtI ?_ | with_reducible refine y_geI ?_ | with_reducible refine y_eqI ?_ | with_reducible refine y_neI ?_ | with_reducible refine y_eqB ?_ | with_reducible refine y_neB ?_ | with_reducible refine y_eqS ?_ | with_reducible refine y_neS ?_ | with_reducible refine y_isN ?_ | with_reducible refine y_isnN ?_ | with_reducible refine y_wget ?_ | with_reducible refine And.intro (len_ok (by with_unfolding_all exact rfl)) ?_))
        refine ⟨rfl, (counted (c := 5) (by decide) 25 33 (by decide) pv).mono ?_⟩
        rintro _ _ ⟨rfl, rfl⟩
        (repeat (first | with_reducible refine w_seq ?_ | with_reducible refine w_set ?_ | with_reducible refine w_expr ?_ | with_reducible refine w_ret ?_ | with_reducible refine w_retN ?_ | with_reducible refine w_store ?_ | with_reducible refine w_nop ?_ | with_reducible refine w_for ?_ | with_reducible refine w_asg ?_ | with_reducible refine w_ct ?_ | with_reducible refine w_brk ?_ | with_reducible refine y_f2 ?_ | with_reducible refine y_C ?_ | with_reducible refine y_var (by with_unfolding_all exact rfl) ?_ | with_reducible refine y_f1 ?_ | with_reducible refine y_B ?_ | with_reducible refine y_unB ?_ | with_reducible refine y_ch ?_ | with_reducible refine y_tru ?_ | with_reducible refine y_tbl ?_ | with_reducible refine y_and ?_ | with_reducible refine y_or ?_ | with_reducible refine y_not ?_ | with_reducible refine y_andV ?_ | with_reducible refine y_notV ?_ | with_reducible refine y_nil ?_ | with_reducible refine y_cons ?_ | with_reducible refine y_tup ?_ | with_reducible refine y_lst ?_ | with_reducible refine y_val ?_ | with_reducible refine y_loc ?_ | with_reducible refine y_dval ?_ | with_reducible refine y_dloc ?_ | with_reducible refine y_ice ?_ | with_reducible refine y_oNone ?_ | with_reducible refine y_oSome ?_ | with_reducible refine y_sl ?_ | with_reducible refine y_A ?_ | with_reducible refine y_call ?_ | with_reducible refine y_M ?_ | with_reducible refine y_aComp ?_ | with_reducible refine y_rng1 ?_ | with_reducible refine y_over ?_ | with_reducible refine y_addI ?_ | with_reducible refine y_subI ?_ | with_reducible refine y_ltI ?_ | with_reducible refine y_leI ?_ | with_reducible refine y_gtI ?_ | with_reducible refine y_geI ?_ | with_reducible refine y_eqI ?_ | with_reducible refine y_neI ?_ | with_reducible refine y_eqB ?_ | with_reducible refine y_neB ?_ | with_reducible refine y_eqS ?_ | with_reducible refine y_neS ?_ | with_reducible refine y_isN ?_ | with_reducible refine y_isnN ?_ | with_reducible refine y_wget ?_ | with_reducible refine And.intro (len_ok (by with_unfolding_all exact rfl)) ?_))
        refine ⟨rfl, ?_⟩
        rw [beq_self_eq_true]
        rfl
      · (repeat (first | with_reducible refine w_seq ?_ | with_reducible refine w_set ?_ | with_reducible refine w_expr ?_ | with_reducible refine w_ret ?_ | with_reducible refine w_retN ?_ | with_reducible refine w_store ?_ | with_reducible refine w_nop ?_ | with_reducible refine w_for ?_ | with_reducible refine w_asg ?_ | with_reducible refine w_ct ?_ | with_reducible refine w_brk ?_ | with_reducible refine y_f2 ?_ | with_reducible refine y_C ?_ | with_reducible refine y_var (by with_unfolding_all exact rfl) ?_ | with_reducible refine y_f1 ?_ | with_reducible refine y_B ?_ | with_reducible refine y_unB ?_ | with_reducible refine y_ch ?_ | with_reducible refine y_tru ?_ | with_reducible refine y_tbl ?_ | with_reducible refine y_and ?_ | with_reducible refine y_or ?_ | with_reducible refine y_not ?_ | with_reducible refine y_andV ?_ | with_reducible refine y_notV ?_ | with_reducible refine y_nil ?_ | with_reducible refine y_cons ?_ | with_reducible refine y_tup ?_ | with_reducible refine y_lst ?_ | with_reducible refine y_val ?_ | with_reducible refine y_loc ?_ | with_reducible refine y_dval ?_ | with_reducible refine y_dloc ?_ | with_reducible refine y_ice ?_ | with_reducible refine y_oNone ?_ | with_reducible refine y_oSome ?_ | with_reducible refine y_sl ?_ | with_reducible refine y_A ?_ | with_reducible refine y_call ?_ | with_reducible refine y_M ?_ | with_reducible refine y_aComp ?_ | with_reducible refine y_rng1 ?_ | with_reducible refine y_over ?_ | with_reducible refine y_addI ?_ | with_reducible refine y_subI ?_ | with_reducible refine y_ltI ?_ | with_reducible refine y_leI ?_ | with_reducible refine y_gtI ?_ | with_reducible refine y_geI ?_ | with_reducible refine y_eqI ?_ | with_reducible refine y_neI ?_ | with_reducible refine y_eqB ?_ | with_reducible refine y_neB ?_ | with_reducible refine y_eqS ?_ | with_reducible refine y_neS ?_ | with_reducible refine y_isN ?_ | with_reducible refine y_isnN ?_ | with_reducible refine y_wget ?_ | with_reducible refine And.intro (len_ok (by with_unfolding_all exact rfl)) ?_))
        exact ⟨rfl, hv, _, _, _, _, _, rfl⟩
    · rintro d S' ⟨eS, -, x3, x4, x5, x6, x7, rfl⟩
      subst eS
      exact ⟨_, _, _, _, _, rfl, by omega, t9⟩
    · intro v hv
      have px5 : Pl 5 30 x.u := px.ups (by decide) (by decide)
      simp only [List.mem_append, List.mem_cons, List.mem_nil_iff, or_false] at hv
      rcases hv with (rfl | rfl | rfl | rfl) | (rfl | rfl | rfl | rfl | rfl | rfl)
      · exact px5.up (by decide)
      · exact p1.ups (by decide) (by decide)
      · exact p2.ups (by decide) (by decide)
      · exact p4
      · trivial
      · trivial
      · exact Pl.strs (by decide +kernel)
      · trivial
      · exact show Pl 5 (30 + 1) _ from ⟨(by decide : 1 ≤ 5), fun u hu => by rw [List.mem_singleton.mp hu]; exact px5⟩
      · exact Pl.strs (hsay w1 hw1)
  · rintro d S2 ⟨x3, x4, x5, x6, x7, rfl, hu, t2⟩
    (repeat (first | with_reducible refine w_seq ?_ | with_reducible refine w_set ?_ | with_reducible refine w_expr ?_ | with_reducible refine w_ret ?_ | with_reducible refine w_retN ?_ | with_reducible refine w_store ?_ | with_reducible refine w_nop ?_ | with_reducible refine w_for ?_ | with_reducible refine w_asg ?_ | with_reducible refine w_ct ?_ | with_reducible refine w_brk ?_ | with_reducible refine y_f2 ?_ | with_reducible refine y_C ?_ | with_reducible refine y_var (by with_unfolding_all exact rfl) ?_ | with_reducible refine y_f1 ?_ | with_reducible refine y_B ?_ | with_reducible refine y_unB ?_ | with_reducible refine y_ch ?_ | with_reducible refine y_tru ?_ | with_reducible refine y_tbl ?_ | with_reducible refine y_and ?_ | with_reducible refine y_or ?_ | with_reducible refine y_not ?_ | with_reducible refine y_andV ?_ | with_reducible refine y_notV ?_ | with_reducible refine y_nil ?_ | with_reducible refine y_cons ?_ | with_reducible refine y_tup ?_ | with_reducible refine y_lst ?_ | with_reducible refine y_val ?_ | with_reducible refine y_loc ?_ | with_reducible refine y_dval ?_ | with_reducible refine y_dloc ?_ | with_reducible refine y_ice ?_ | with_reducible refine y_oNone ?_ | with_reducible refine y_oSome ?_ | with_reducible refine y_sl ?_ | with_reducible refine y_A ?_ | with_reducible refine y_call ?_ | with_reducible refine y_M ?_ | with_reducible refine y_aComp ?_ | with_reducible refine y_rng1 ?_ | with_reducible refine y_over ?_ | with_reducible refine y_addI ?_ | with_reducible refine y_subI ?_ | with_reducible refine y_ltI ?_ | with_reducible refine y_leI ?_ | with_reducible refine y_gtI ?_ | with_reducible refine y_geI ?_ | with_reducible refine y_eqI ?_ | with_reducible refine y_neI ?_ | with_reducible refine y_eqB ?_ | with_reducible refine y_neB ?_ | with_reducible refine y_eqS ?_ | with_reducible refine y_neS ?_ | with_reducible refine y_isN ?_ | with_reducible refine y_isnN ?_ | with_reducible refine y_wget ?_ | with_reducible refine And.intro (len_ok (by with_unfolding_all exact rfl)) ?_))
    rfl

end Law

set_option Elab.async false
set_option linter.all false
set_option maxRecDepth 100000
namespace Law
open PySem PySem.Spec L2 DL
/-! ### what the top has left -/
structure Txt (w : World) (K : PySem.W.Frag) (mg : Str → Option Value) where
  a_is_word : Addr
  fd_is_word : FuncData
  F_is_word : Fun K "is_word" "is_word" s_is_word a_is_word fd_is_word
  m_is_word : mg "is_word" = some (.ref a_is_word)
  b_is_word : Binds K fd_is_word ["thing"] []
  a_parts_in : Addr
  fd_parts_in : FuncData
  F_parts_in : Fun K "parts_in" "parts_in" s_parts_in a_parts_in fd_parts_in
  m_parts_in : mg "parts_in" = some (.ref a_parts_in)
  b_parts_in : Binds K fd_parts_in ["thing", "deep"] []
  a_is_saying : Addr
  fd_is_saying : FuncData
  F_is_saying : Fun K "is_saying" "is_saying" s_is_saying a_is_saying fd_is_saying
  m_is_saying : mg "is_saying" = some (.ref a_is_saying)
  b_is_saying : Binds K fd_is_saying ["thing"] []
  a__law_tape : Addr
  fd__law_tape : FuncData
  F__law_tape : Fun K "_law_tape" "_law_tape" s_law_tape a__law_tape fd__law_tape
  m__law_tape : mg "_law_tape" = some (.ref a__law_tape)
  b__law_tape : Binds K fd__law_tape ["_law_script"] []
  a__law_draw : Addr
  fd__law_draw : FuncData
  F__law_draw : Fun K "_law_draw" "_law_draw" s_law_draw a__law_draw fd__law_draw
  m__law_draw : mg "_law_draw" = some (.ref a__law_draw)
  b__law_draw : Binds K fd__law_draw ["_law_tape_here", "_law_many"] []
  a__law_words : Addr
  fd__law_words : FuncData
  F__law_words : Fun K "_law_words" "_law_words" s_law_words a__law_words fd__law_words
  m__law_words : mg "_law_words" = some (.ref a__law_words)
  b__law_words : Binds K fd__law_words ["_law_tape_here", "_law_many"] []
  a__law_saying : Addr
  fd__law_saying : FuncData
  F__law_saying : Fun K "_law_saying" "_law_saying" s_law_saying a__law_saying fd__law_saying
  m__law_saying : mg "_law_saying" = some (.ref a__law_saying)
  b__law_saying : Binds K fd__law_saying ["_law_tape_here", "_law_names", "_law_left", "_law_deep"] []
  a__law_counted : Addr
  fd__law_counted : FuncData
  F__law_counted : Fun K "_law_counted" "_law_counted" s_law_counted a__law_counted fd__law_counted
  m__law_counted : mg "_law_counted" = some (.ref a__law_counted)
  b__law_counted : Binds K fd__law_counted ["_law_thing", "_law_deep"] []
  a__law_other : Addr
  fd__law_other : FuncData
  F__law_other : Fun K "_law_other" "_law_other" s_law_other a__law_other fd__law_other
  m__law_other : mg "_law_other" = some (.ref a__law_other)
  b__law_other : Binds K fd__law_other ["_law_tape_here", "_law_part"] []
  a__law_bent : Addr
  fd__law_bent : FuncData
  F__law_bent : Fun K "_law_bent" "_law_bent" s_law_bent a__law_bent fd__law_bent
  m__law_bent : mg "_law_bent" = some (.ref a__law_bent)
  b__law_bent : Binds K fd__law_bent ["_law_tape_here", "_law_thing"] []
  a__law_long : Addr
  fd__law_long : FuncData
  F__law_long : Fun K "_law_long" "_law_long" s_law_long a__law_long fd__law_long
  m__law_long : mg "_law_long" = some (.ref a__law_long)
  b__law_long : Binds K fd__law_long ["_law_tape_here", "_law_name"] []
  a_law : Addr
  fd_law : FuncData
  F_law : Fun K "law" "law" s_law a_law fd_law
  m_law : mg "law" = some (.ref a_law)
  b_law : Binds K fd_law ["_law_script"] []
  k_DEEPEST : Value
  y_DEEPEST : V
  m_DEEPEST : mg "DEEPEST" = some k_DEEPEST
  r_DEEPEST : RelV y_DEEPEST k_DEEPEST
  v_DEEPEST : ∀ {e : Wd}, VR K e c_DEEPEST y_DEEPEST
  k_LETTERS : Value
  y_LETTERS : V
  m_LETTERS : mg "LETTERS" = some k_LETTERS
  r_LETTERS : RelV y_LETTERS k_LETTERS
  v_LETTERS : ∀ {e : Wd}, VR K e c_LETTERS y_LETTERS
  k_LONGEST_WORD : Value
  y_LONGEST_WORD : V
  m_LONGEST_WORD : mg "LONGEST_WORD" = some k_LONGEST_WORD
  r_LONGEST_WORD : RelV y_LONGEST_WORD k_LONGEST_WORD
  v_LONGEST_WORD : ∀ {e : Wd}, VR K e c_LONGEST_WORD y_LONGEST_WORD
  a_MANY : Addr
  m_MANY : mg "MANY" = some (.ref a_MANY)
  d_MANY : KTab K w a_MANY t_MANY
  k_MOST_PARTS : Value
  y_MOST_PARTS : V
  m_MOST_PARTS : mg "MOST_PARTS" = some k_MOST_PARTS
  r_MOST_PARTS : RelV y_MOST_PARTS k_MOST_PARTS
  v_MOST_PARTS : ∀ {e : Wd}, VR K e c_MOST_PARTS y_MOST_PARTS
  k_WORDS_OF_TEXTS : Value
  y_WORDS_OF_TEXTS : V
  m_WORDS_OF_TEXTS : mg "WORDS_OF_TEXTS" = some k_WORDS_OF_TEXTS
  r_WORDS_OF_TEXTS : RelV y_WORDS_OF_TEXTS k_WORDS_OF_TEXTS
  v_WORDS_OF_TEXTS : ∀ {e : Wd}, VR K e c_WORDS_OF_TEXTS y_WORDS_OF_TEXTS
  z_all : mg "all" = none
  z_bool : mg "bool" = none
  z_int : mg "int" = none
  z_isinstance : mg "isinstance" = none
  z_len : mg "len" = none
  z_list : mg "list" = none
  z_min : mg "min" = none
  z_range : mg "range" = none
  z_str : mg "str" = none
  z_sum : mg "sum" = none
  z_tuple : mg "tuple" = none
section
variable {P : Program} {w : World} {K : PySem.W.Frag} {mg : Str → Option Value} {base : Heap}
structure Oks (P : Program) (base : Heap) (T : Txt w K mg) (k : Nat) : Prop where
  o_is_word : FnOk P w K mg base (L2.CX P w) k T.a_is_word T.fd_is_word ["thing"] (spOf K mg 1 (call k i_is_word))
  o_parts_in : FnOk P w K mg base (L2.CX P w) k T.a_parts_in T.fd_parts_in ["thing", "deep"] (spOf K mg 2 (call k i_parts_in))
  o_is_saying : FnOk P w K mg base (L2.CX P w) k T.a_is_saying T.fd_is_saying ["thing"] (spOf K mg 1 (call k i_is_saying))
  o__law_tape : FnOk P w K mg base (L2.CX P w) k T.a__law_tape T.fd__law_tape ["_law_script"] (spOf K mg 1 (call k i_law_tape))
  o__law_draw : FnOk P w K mg base (L2.CX P w) k T.a__law_draw T.fd__law_draw ["_law_tape_here", "_law_many"] (spOf K mg 2 (call k i_law_draw))
  o__law_words : FnOk P w K mg base (L2.CX P w) k T.a__law_words T.fd__law_words ["_law_tape_here", "_law_many"] (spOf K mg 2 (call k i_law_words))
  o__law_saying : FnOk P w K mg base (L2.CX P w) k T.a__law_saying T.fd__law_saying ["_law_tape_here", "_law_names", "_law_left", "_law_deep"] (spOf K mg 4 (call k i_law_saying))
  o__law_counted : FnOk P w K mg base (L2.CX P w) k T.a__law_counted T.fd__law_counted ["_law_thing", "_law_deep"] (spOf K mg 2 (call k i_law_counted))
  o__law_other : FnOk P w K mg base (L2.CX P w) k T.a__law_other T.fd__law_other ["_law_tape_here", "_law_part"] (spOf K mg 2 (call k i_law_other))
  o__law_bent : FnOk P w K mg base (L2.CX P w) k T.a__law_bent T.fd__law_bent ["_law_tape_here", "_law_thing"] (spOf K mg 2 (call k i_law_bent))
  o__law_long : FnOk P w K mg base (L2.CX P w) k T.a__law_long T.fd__law_long ["_law_tape_here", "_law_name"] (spOf K mg 2 (call k i_law_long))
  o_law : FnOk P w K mg base (L2.CX P w) k T.a_law T.fd_law ["_law_script"] (spOf K mg 1 (call k i_law))
set_option maxHeartbeats 4000000 in
theorem sim_is_word {k : Nat} (T : Txt w K mg) (O : Oks P base T k) (cdv : Value) (A : Around) (outer : List Env) (s : Shared) (H : Hp) (E : XK) (hr : Room k (A.deeper (PyProof.Rows.envOfC "is_word" (defScope s_is_word) s.heap.objs.size T.a_is_word cdv))) :
    SimB (cxOf (L2.CX P w) P w K mg base n_is_word "is_word" (defScope s_is_word) T.a_is_word cdv A outer s H E) (fun cls d _ H2 => E cls d H2) (defBody s_is_word) (b_is_word (call k)) := by
  have nd := sc_is_word.nd
  have hu66 := hr.un
  have hu64 : (A.deeper (PyProof.Rows.envOfC "is_word" (defScope s_is_word) s.heap.objs.size T.a_is_word cdv)).units + 64 < cLine := by omega
  have hu1 : (A.deeper (PyProof.Rows.envOfC "is_word" (defScope s_is_word) s.heap.objs.size T.a_is_word cdv)).units + 1 < cLine := by omega
  replace hu66 : (A.deeper (PyProof.Rows.envOfC "is_word" (defScope s_is_word) s.heap.objs.size T.a_is_word cdv)).units + 66 < cLine := by omega
  exact (sb_cons (ss_if (SimW.t (sw_or (st_not (st_val (se_callB cs_isi rfl T.z_isinstance (by decide +kernel) (sa_cons (se_var 0) (sa_cons (se_ty "str" rfl T.z_str (by decide +kernel)) sa_nil))))) (sw_or1 (st_not (st_chain os_le noX_le os_le noX_le se_int (se_callB cs_len rfl T.z_len (by decide +kernel) (sa_cons (se_var 0) sa_nil)) (se_glob rfl T.m_LONGEST_WORD T.r_LONGEST_WORD (fun _ => T.v_LONGEST_WORD))))))) (sb_one (ss_ret se_bl)) sb_nil)
    (sb_one (ss_ret (se_and (se_callB (cs_all rfl) rfl T.z_all (by decide +kernel) (sa_cons (SimL.val (sl_comp rfl nd (si_str (se_var 0)) (blkOk_by (own := [("sign", 1)]) (N := n_is_word) (sc := defScope s_is_word) (by decide +kernel)) (fun _ _ _ _ _ => (sg_name 1 nd rfl (by first | exact Or.inl rfl | exact Or.inr rfl))) (fun _ _ _ _ _ => ts_nil) (fun _ _ _ _ _ => (se_cmp (os_in hu66) noX_in (se_var 1) (se_glob rfl T.m_LETTERS T.r_LETTERS (fun _ => T.v_LETTERS)) (by rfl))))) sa_nil)) (se_one (se_cmp (os_nin hu66) noX_nin (se_var 0) (se_glob rfl T.m_WORDS_OF_TEXTS T.r_WORDS_OF_TEXTS (fun _ => T.v_WORDS_OF_TEXTS)) (by rfl)))))))
set_option maxHeartbeats 4000000 in
theorem sim_parts_in {k : Nat} (T : Txt w K mg) (O : Oks P base T k) (cdv : Value) (A : Around) (outer : List Env) (s : Shared) (H : Hp) (E : XK) (hr : Room k (A.deeper (PyProof.Rows.envOfC "parts_in" (defScope s_parts_in) s.heap.objs.size T.a_parts_in cdv))) :
    SimB (cxOf (L2.CX P w) P w K mg base n_parts_in "parts_in" (defScope s_parts_in) T.a_parts_in cdv A outer s H E) (fun cls d _ H2 => E cls d H2) (defBody s_parts_in) (b_parts_in (call k)) := by
  have nd := sc_parts_in.nd
  have hu66 := hr.un
  have hu64 : (A.deeper (PyProof.Rows.envOfC "parts_in" (defScope s_parts_in) s.heap.objs.size T.a_parts_in cdv)).units + 64 < cLine := by omega
  have hu1 : (A.deeper (PyProof.Rows.envOfC "parts_in" (defScope s_parts_in) s.heap.objs.size T.a_parts_in cdv)).units + 1 < cLine := by omega
  replace hu66 : (A.deeper (PyProof.Rows.envOfC "parts_in" (defScope s_parts_in) s.heap.objs.size T.a_parts_in cdv)).units + 66 < cLine := by omega
  exact (sb_cons (ss_if (SimW.t (sw_or (st_cmp os_gt noX_gt (se_var 1) (se_glob rfl T.m_DEEPEST T.r_DEEPEST (fun _ => T.v_DEEPEST)) (nomark _)) (sw_or (st_not (st_val (se_callB cs_isi rfl T.z_isinstance (by decide +kernel) (sa_cons (se_var 0) (sa_cons (se_ty "tuple" rfl T.z_tuple (by decide +kernel)) sa_nil))))) (sw_or (st_cmp os_lt noX_lt (se_callB cs_len rfl T.z_len (by decide +kernel) (sa_cons (se_var 0) sa_nil)) se_int (nomark _)) (sw_or1 (st_not (st_val (se_callB cs_isi rfl T.z_isinstance (by decide +kernel) (sa_cons (se_ix hu1 (se_var 0) se_int) (sa_cons (se_ty "str" rfl T.z_str (by decide +kernel)) sa_nil)))))))))) (sb_one (ss_ret (se_op os_add noX_add (se_glob rfl T.m_MOST_PARTS T.r_MOST_PARTS (fun _ => T.v_MOST_PARTS)) se_int))) sb_nil)
    (sb_cons (ss_if (st_cmp (os_eq hu64) noX_eq (se_ix hu1 (se_var 0) se_int) se_str (nomark _)) (sb_one (ss_ret (se_if (SimW.t (sw_and (st_cmp (os_eq hu64) noX_eq (se_callB cs_len rfl T.z_len (by decide +kernel) (sa_cons (se_var 0) sa_nil)) se_int (nomark _)) (sw_and1 (st_val (se_call (O.o_is_word) hr (pas_of (takes_of rfl rfl rfl rfl)) rfl T.m_is_word T.F_is_word.kp T.b_is_word (sa_cons (se_ix hu1 (se_var 0) se_int) sa_nil)))))) se_int (se_op os_add noX_add (se_glob rfl T.m_MOST_PARTS T.r_MOST_PARTS (fun _ => T.v_MOST_PARTS)) se_int)))) sb_nil)
    (sb_cons (ss_set 2 nd rfl (by first | exact Or.inl rfl | exact Or.inr rfl) (se_wget T.d_MANY rfl T.m_MANY (se_ix hu1 (se_var 0) se_int)))
    (sb_cons (ss_if (SimW.t (sw_or (st_cmp os_is noX_is (se_var 2) se_non (nomark _)) (sw_or1 (st_cmp (os_ne hu64) noX_ne (se_callB cs_len rfl T.z_len (by decide +kernel) (sa_cons (se_var 0) sa_nil)) (se_op os_add noX_add se_int (se_var 2)) (nomark _))))) (sb_one (ss_ret (se_op os_add noX_add (se_glob rfl T.m_MOST_PARTS T.r_MOST_PARTS (fun _ => T.v_MOST_PARTS)) se_int))) sb_nil)
    (sb_cons (ss_set 3 nd rfl (by first | exact Or.inl rfl | exact Or.inr rfl) se_int)
    (sb_cons (ss_for (passes_of rfl) rfl (si_tup (se_slice (se_var 0) (so_some se_int) so_none)) (sg_name 4 nd rfl (by first | exact Or.inl rfl | exact Or.inr rfl)) (sb_cons (ss_set 3 nd rfl (by first | exact Or.inl rfl | exact Or.inr rfl) (se_op os_add noX_add (se_var 3) (se_call (O.o_parts_in) hr (pas_of (takes_of rfl rfl rfl rfl)) rfl T.m_parts_in T.F_parts_in.kp T.b_parts_in (sa_cons (se_var 4) (sa_cons (se_op os_add noX_add (se_var 1) se_int) sa_nil)))))
    (sb_one (ss_if (st_cmp os_gt noX_gt (se_var 3) (se_glob rfl T.m_MOST_PARTS T.r_MOST_PARTS (fun _ => T.v_MOST_PARTS)) (nomark _)) (sb_one (ss_ret (se_var 3))) sb_nil))))
    (sb_one (ss_ret (se_var 3)))))))))
set_option maxHeartbeats 4000000 in
theorem sim_is_saying {k : Nat} (T : Txt w K mg) (O : Oks P base T k) (cdv : Value) (A : Around) (outer : List Env) (s : Shared) (H : Hp) (E : XK) (hr : Room k (A.deeper (PyProof.Rows.envOfC "is_saying" (defScope s_is_saying) s.heap.objs.size T.a_is_saying cdv))) :
    SimB (cxOf (L2.CX P w) P w K mg base n_is_saying "is_saying" (defScope s_is_saying) T.a_is_saying cdv A outer s H E) (fun cls d _ H2 => E cls d H2) (defBody s_is_saying) (b_is_saying (call k)) := by
  have nd := sc_is_saying.nd
  have hu66 := hr.un
  have hu64 : (A.deeper (PyProof.Rows.envOfC "is_saying" (defScope s_is_saying) s.heap.objs.size T.a_is_saying cdv)).units + 64 < cLine := by omega
  have hu1 : (A.deeper (PyProof.Rows.envOfC "is_saying" (defScope s_is_saying) s.heap.objs.size T.a_is_saying cdv)).units + 1 < cLine := by omega
  replace hu66 : (A.deeper (PyProof.Rows.envOfC "is_saying" (defScope s_is_saying) s.heap.objs.size T.a_is_saying cdv)).units + 66 < cLine := by omega
  exact (sb_one (ss_ret (se_cmp os_le noX_le (se_call (O.o_parts_in) hr (pas_of (takes_of rfl rfl rfl rfl)) rfl T.m_parts_in T.F_parts_in.kp T.b_parts_in (sa_cons (se_var 0) (sa_cons se_int sa_nil))) (se_glob rfl T.m_MOST_PARTS T.r_MOST_PARTS (fun _ => T.v_MOST_PARTS)) (nomark _))))
set_option maxHeartbeats 4000000 in
theorem sim_law_tape {k : Nat} (T : Txt w K mg) (O : Oks P base T k) (cdv : Value) (A : Around) (outer : List Env) (s : Shared) (H : Hp) (E : XK) (hr : Room k (A.deeper (PyProof.Rows.envOfC "_law_tape" (defScope s_law_tape) s.heap.objs.size T.a__law_tape cdv))) :
    SimB (cxOf (L2.CX P w) P w K mg base n_law_tape "_law_tape" (defScope s_law_tape) T.a__law_tape cdv A outer s H E) (fun cls d _ H2 => E cls d H2) (defBody s_law_tape) (b_law_tape (call k)) := by
  have nd := sc_law_tape.nd
  have hu66 := hr.un
  have hu64 : (A.deeper (PyProof.Rows.envOfC "_law_tape" (defScope s_law_tape) s.heap.objs.size T.a__law_tape cdv)).units + 64 < cLine := by omega
  have hu1 : (A.deeper (PyProof.Rows.envOfC "_law_tape" (defScope s_law_tape) s.heap.objs.size T.a__law_tape cdv)).units + 1 < cLine := by omega
  replace hu66 : (A.deeper (PyProof.Rows.envOfC "_law_tape" (defScope s_law_tape) s.heap.objs.size T.a__law_tape cdv)).units + 66 < cLine := by omega
  exact (sb_one (ss_ret (SimD.loc (sd_disp (sp_cons se_str (se_slice (se_var 0) so_none (so_some se_int)) (sp_cons se_str se_int (sp_cons se_str se_int sp_nil)))))))
set_option maxHeartbeats 4000000 in
theorem sim_law_draw {k : Nat} (T : Txt w K mg) (O : Oks P base T k) (cdv : Value) (A : Around) (outer : List Env) (s : Shared) (H : Hp) (E : XK) (hr : Room k (A.deeper (PyProof.Rows.envOfC "_law_draw" (defScope s_law_draw) s.heap.objs.size T.a__law_draw cdv))) :
    SimB (cxOf (L2.CX P w) P w K mg base n_law_draw "_law_draw" (defScope s_law_draw) T.a__law_draw cdv A outer s H E) (fun cls d _ H2 => E cls d H2) (defBody s_law_draw) (b_law_draw (call k)) := by
  have nd := sc_law_draw.nd
  have hu66 := hr.un
  have hu64 : (A.deeper (PyProof.Rows.envOfC "_law_draw" (defScope s_law_draw) s.heap.objs.size T.a__law_draw cdv)).units + 64 < cLine := by omega
  have hu1 : (A.deeper (PyProof.Rows.envOfC "_law_draw" (defScope s_law_draw) s.heap.objs.size T.a__law_draw cdv)).units + 1 < cLine := by omega
  replace hu66 : (A.deeper (PyProof.Rows.envOfC "_law_draw" (defScope s_law_draw) s.heap.objs.size T.a__law_draw cdv)).units + 66 < cLine := by omega
  exact (sb_cons (ss_if (st_cmp os_gt noX_gt (se_ix hu1 (se_var 0) se_str) se_int (nomark _)) (sb_cons (ss_set 8 nd rfl (by first | exact Or.inl rfl | exact Or.inr rfl) (se_op os_mod noX_mod (se_ix hu1 (se_var 0) se_str) (se_var 1)))
    (sb_cons (ss_store hu1 (se_op os_fdiv noX_fdiv (se_ix hu1 (se_var 0) se_str) (se_var 1)) (se_var 0) se_str)
    (sb_one (ss_ret (se_var 8))))) sb_nil)
    (sb_cons (ss_set 2 nd rfl (by first | exact Or.inl rfl | exact Or.inr rfl) (se_ix hu1 (se_var 0) se_str))
    (sb_cons (ss_store hu1 (se_op os_add noX_add (se_var 2) se_int) (se_var 0) se_str)
    (sb_cons (ss_set 3 nd rfl (by first | exact Or.inl rfl | exact Or.inr rfl) (se_or (se_ix hu1 (se_var 0) se_str) (se_one (SimL.val (sl_lst (sa_cons se_int sa_nil))))))
    (sb_cons (ss_set 4 nd rfl (by first | exact Or.inl rfl | exact Or.inr rfl) (se_ix hu1 (se_var 3) (se_op os_mod noX_mod (se_var 2) (se_callB cs_len rfl T.z_len (by decide +kernel) (sa_cons (se_var 3) sa_nil)))))
    (sb_cons (ss_if (SimW.t (sw_and (st_cmp os_ge noX_ge (se_var 4) (se_op os_pow noX_pow se_int se_int) (nomark _)) (sw_and1 (st_cmp os_lt noX_lt (se_var 2) (se_callB cs_len rfl T.z_len (by decide +kernel) (sa_cons (se_var 3) sa_nil)) (nomark _))))) (sb_cons (ss_store hu1 (se_op os_fdiv noX_fdiv (se_op os_sub noX_sub (se_var 4) (se_op os_pow noX_pow se_int se_int)) (se_var 1)) (se_var 0) se_str)
    (sb_one (ss_ret (se_op os_mod noX_mod (se_op os_sub noX_sub (se_var 4) (se_op os_pow noX_pow se_int se_int)) (se_var 1))))) sb_nil)
    (sb_cons (ss_set 5 nd rfl (by first | exact Or.inl rfl | exact Or.inr rfl) (SimL.val (sl_lst (sa_cons se_int (sa_cons se_int (sa_cons se_int (sa_cons se_int (sa_cons se_int (sa_cons se_int (sa_cons se_int sa_nil))))))))))
    (sb_cons (ss_set 6 nd rfl (by first | exact Or.inl rfl | exact Or.inr rfl) (se_ix hu1 (se_var 5) (se_op os_mod noX_mod (se_var 2) se_int)))
    (sb_cons (ss_set 7 nd rfl (by first | exact Or.inl rfl | exact Or.inr rfl) (se_op os_mod noX_mod (se_op os_add noX_add (se_op os_add noX_add (se_op os_add noX_add (se_op os_mul noX_mul (se_op os_mod noX_mod (se_var 4) (se_var 6)) se_int) (se_op os_mul noX_mul (se_op os_mul noX_mul se_int (se_var 2)) (se_var 2))) (se_op os_mul noX_mul se_int (se_var 2))) se_int) (se_var 6)))
    (sb_cons (ss_set 7 nd rfl (by first | exact Or.inl rfl | exact Or.inr rfl) (se_op os_mod noX_mod (se_op os_mul noX_mul (se_var 7) (se_op os_add noX_add (se_var 7) se_int)) (se_ix hu1 (se_var 5) (se_op os_mod noX_mod (se_op os_add noX_add (se_var 2) se_int) se_int))))
    (sb_cons (ss_set 8 nd rfl (by first | exact Or.inl rfl | exact Or.inr rfl) (se_op os_fdiv noX_fdiv (se_op os_mod noX_mod (se_op os_mul noX_mul (se_var 7) (se_var 7)) (se_var 6)) se_int))
    (sb_cons (ss_if (st_cmp os_gt noX_gt (se_var 1) (se_op os_pow noX_pow se_int se_int) (nomark _)) (sb_one (ss_set 8 nd rfl (by first | exact Or.inl rfl | exact Or.inr rfl) (se_op os_add noX_add (se_op os_mod noX_mod (se_var 8) (se_op os_pow noX_pow se_int se_int)) (se_op os_mul noX_mul (se_op os_pow noX_pow se_int se_int) (se_call (O.o__law_draw) hr (pas_of (takes_of rfl rfl rfl rfl)) rfl T.m__law_draw T.F__law_draw.kp T.b__law_draw (sa_cons (se_var 0) (sa_cons (se_op os_add noX_add (se_op os_fdiv noX_fdiv (se_var 1) (se_op os_pow noX_pow se_int se_int)) se_int) sa_nil))))))) sb_nil)
    (sb_one (ss_ret (se_op os_mod noX_mod (se_var 8) (se_var 1))))))))))))))))
set_option maxHeartbeats 4000000 in
theorem sim_law_words {k : Nat} (T : Txt w K mg) (O : Oks P base T k) (cdv : Value) (A : Around) (outer : List Env) (s : Shared) (H : Hp) (E : XK) (hr : Room k (A.deeper (PyProof.Rows.envOfC "_law_words" (defScope s_law_words) s.heap.objs.size T.a__law_words cdv))) :
    SimB (cxOf (L2.CX P w) P w K mg base n_law_words "_law_words" (defScope s_law_words) T.a__law_words cdv A outer s H E) (fun cls d _ H2 => E cls d H2) (defBody s_law_words) (b_law_words (call k)) := by
  have nd := sc_law_words.nd
  have hu66 := hr.un
  have hu64 : (A.deeper (PyProof.Rows.envOfC "_law_words" (defScope s_law_words) s.heap.objs.size T.a__law_words cdv)).units + 64 < cLine := by omega
  have hu1 : (A.deeper (PyProof.Rows.envOfC "_law_words" (defScope s_law_words) s.heap.objs.size T.a__law_words cdv)).units + 1 < cLine := by omega
  replace hu66 : (A.deeper (PyProof.Rows.envOfC "_law_words" (defScope s_law_words) s.heap.objs.size T.a__law_words cdv)).units + 66 < cLine := by omega
  exact (sb_cons (ss_set 2 nd rfl (by first | exact Or.inl rfl | exact Or.inr rfl) se_str)
    (sb_cons (ss_set 3 nd rfl (by first | exact Or.inl rfl | exact Or.inr rfl) (se_bm PySem.F.plainAttrs_str PySem.F.slot_str_split PySem.F.type_str_split ms_split se_str (sa_cons se_str sa_nil)))
    (sb_cons (ss_set 4 nd rfl (by first | exact Or.inl rfl | exact Or.inr rfl) (se_bm PySem.F.plainAttrs_str PySem.F.slot_str_join PySem.F.type_str_join ms_join se_str (sa_cons (SimL.val (sl_comp rfl nd (si_range1 rfl T.z_range (sa_cons (se_op os_add noX_add se_int (se_call (O.o__law_draw) hr (pas_of (takes_of rfl rfl rfl rfl)) rfl T.m__law_draw T.F__law_draw.kp T.b__law_draw (sa_cons (se_var 0) (sa_cons se_int sa_nil)))) sa_nil)) (blkOk_by (own := [("_law_k", 6)]) (N := n_law_words) (sc := defScope s_law_words) (by decide +kernel)) (fun _ _ _ _ _ => (sg_name 6 nd rfl (by first | exact Or.inl rfl | exact Or.inr rfl))) (fun _ _ _ _ _ => ts_nil) (fun _ _ _ _ _ => (se_ix hu1 (se_var 2) (se_call (O.o__law_draw) hr pas_none rfl T.m__law_draw T.F__law_draw.kp T.b__law_draw (sa_cons (se_var 0) (sa_cons se_int sa_nil))))))) sa_nil)))
    (sb_cons (ss_set 5 nd rfl (by first | exact Or.inl rfl | exact Or.inr rfl) (SimL.loc (sl_lst sa_nil)))
    (sb_cons (ss_for (passes_of rfl) rfl (si_range1 rfl T.z_range (sa_cons (se_var 1) sa_nil)) (sg_name 6 nd rfl (by first | exact Or.inl rfl | exact Or.inr rfl)) (sb_cons (ss_set 7 nd rfl (by first | exact Or.inl rfl | exact Or.inr rfl) (se_ix hu1 (se_var 2) (se_call (O.o__law_draw) hr (pas_of (takes_of rfl rfl rfl rfl)) rfl T.m__law_draw T.F__law_draw.kp T.b__law_draw (sa_cons (se_var 0) (sa_cons se_int sa_nil)))))
    (sb_cons (ss_set 8 nd rfl (by first | exact Or.inl rfl | exact Or.inr rfl) (SimL.val (sl_lst (sa_cons (se_var 4) (sa_cons (se_op os_add noX_add (se_var 4) (se_var 7)) (sa_cons (se_op os_add noX_add (se_var 7) (se_var 4)) (sa_cons (se_var 7) (sa_cons (se_op os_add noX_add (se_op os_add noX_add (se_var 4) (se_var 7)) (se_var 7)) (sa_cons (se_ix hu1 (se_var 3) (se_call (O.o__law_draw) hr (pas_of (takes_of rfl rfl rfl rfl)) rfl T.m__law_draw T.F__law_draw.kp T.b__law_draw (sa_cons (se_var 0) (sa_cons se_int sa_nil)))) sa_nil)))))))))
    (sb_cons (ss_set 9 nd rfl (by first | exact Or.inl rfl | exact Or.inr rfl) (se_slice (se_ix hu1 (se_var 8) (se_call (O.o__law_draw) hr (pas_of (takes_of rfl rfl rfl rfl)) rfl T.m__law_draw T.F__law_draw.kp T.b__law_draw (sa_cons (se_var 0) (sa_cons se_int sa_nil)))) so_none (so_some se_int)))
    (sb_cons (ss_for (passes_of rfl) rfl (si_str (se_var 2)) (sg_name 10 nd rfl (by first | exact Or.inl rfl | exact Or.inr rfl)) (sb_one (ss_if (SimW.t (sw_or (st_cmp (os_in hu66) noX_in (se_var 9) (se_var 5) (by rfl)) (sw_or1 (st_cmp (os_in hu66) noX_in (se_var 9) (se_tup (sa_cons se_str (sa_cons se_str (sa_cons se_str (sa_cons se_str (sa_cons se_str (sa_cons se_str (sa_cons se_str sa_nil)))))))) (by rfl))))) (sb_one (ss_set 9 nd rfl (by first | exact Or.inl rfl | exact Or.inr rfl) (se_op os_add noX_add (se_slice (se_var 9) so_none (so_some se_int)) (se_var 10)))) sb_nil)))
    (sb_one (ss_expr (se_bm PySem.F.plainAttrs_list PySem.F.slot_list_append PySem.F.type_list_append ms_append (se_var 5) (sa_cons (se_var 9) sa_nil)))))))))
    (sb_one (ss_ret (se_ice (se_var 5)))))))))
set_option maxHeartbeats 4000000 in
theorem sim_law_saying {k : Nat} (T : Txt w K mg) (O : Oks P base T k) (cdv : Value) (A : Around) (outer : List Env) (s : Shared) (H : Hp) (E : XK) (hr : Room k (A.deeper (PyProof.Rows.envOfC "_law_saying" (defScope s_law_saying) s.heap.objs.size T.a__law_saying cdv))) :
    SimB (cxOf (L2.CX P w) P w K mg base n_law_saying "_law_saying" (defScope s_law_saying) T.a__law_saying cdv A outer s H E) (fun cls d _ H2 => E cls d H2) (defBody s_law_saying) (b_law_saying (call k)) := by
  have nd := sc_law_saying.nd
  have hu66 := hr.un
  have hu64 : (A.deeper (PyProof.Rows.envOfC "_law_saying" (defScope s_law_saying) s.heap.objs.size T.a__law_saying cdv)).units + 64 < cLine := by omega
  have hu1 : (A.deeper (PyProof.Rows.envOfC "_law_saying" (defScope s_law_saying) s.heap.objs.size T.a__law_saying cdv)).units + 1 < cLine := by omega
  replace hu66 : (A.deeper (PyProof.Rows.envOfC "_law_saying" (defScope s_law_saying) s.heap.objs.size T.a__law_saying cdv)).units + 66 < cLine := by omega
  exact (sb_cons (ss_set 4 nd rfl (by first | exact Or.inl rfl | exact Or.inr rfl) (se_call (O.o__law_draw) hr (pas_of (takes_of rfl rfl rfl rfl)) rfl T.m__law_draw T.F__law_draw.kp T.b__law_draw (sa_cons (se_var 0) (sa_cons se_int sa_nil))))
    (sb_cons (ss_if (SimW.t (sw_or (st_cmp os_lt noX_lt (se_ix hu1 (se_var 2) se_int) se_int (nomark _)) (sw_or (st_cmp os_lt noX_lt (se_var 3) se_int (nomark _)) (sw_or1 (st_cmp os_lt noX_lt (se_var 4) se_int (nomark _)))))) (sb_one (ss_ret (se_ix hu1 (SimL.val (sl_lst (sa_cons (se_tup (sa_cons se_str sa_nil)) (sa_cons (se_tup (sa_cons se_str sa_nil)) (sa_cons (se_tup (sa_cons se_str (sa_cons (se_ix hu1 (se_var 1) (se_call (O.o__law_draw) hr (pas_of (takes_of rfl rfl rfl rfl)) rfl T.m__law_draw T.F__law_draw.kp T.b__law_draw (sa_cons (se_var 0) (sa_cons (se_callB cs_len rfl T.z_len (by decide +kernel) (sa_cons (se_var 1) sa_nil)) sa_nil)))) sa_nil))) sa_nil))))) (se_callB (cs_min rfl) rfl T.z_min (by decide +kernel) (sa_cons se_int (sa_cons (se_call (O.o__law_draw) hr (pas_of (takes_of rfl rfl rfl rfl)) rfl T.m__law_draw T.F__law_draw.kp T.b__law_draw (sa_cons (se_var 0) (sa_cons se_int sa_nil))) sa_nil)))))) sb_nil)
    (sb_cons (ss_store hu1 (se_op os_sub noX_sub (se_op os_sub noX_sub (se_ix hu1 (se_var 2) se_int) se_int) (se_callTy cs_int rfl T.z_int (by decide +kernel) (sa_cons (se_cmp os_gt noX_gt (se_var 4) se_int (nomark _)) sa_nil))) (se_var 2) se_int)
    (sb_cons (ss_if (st_cmp (os_eq hu64) noX_eq (se_var 4) se_int (nomark _)) (sb_one (ss_ret (se_tup (sa_cons se_str (sa_cons (se_call (O.o__law_saying) hr (pas_of (takes_of rfl rfl rfl rfl)) rfl T.m__law_saying T.F__law_saying.kp T.b__law_saying (sa_cons (se_var 0) (sa_cons (se_var 1) (sa_cons (se_var 2) (sa_cons (se_op os_sub noX_sub (se_var 3) se_int) sa_nil))))) sa_nil))))) sb_nil)
    (sb_cons (ss_set 5 nd rfl (by first | exact Or.inl rfl | exact Or.inr rfl) (se_ix hu1 (SimL.val (sl_lst (sa_cons se_str (sa_cons se_str (sa_cons se_str (sa_cons se_str (sa_cons se_str (sa_cons se_str sa_nil)))))))) (se_op os_sub noX_sub (se_var 4) se_int)))
    (sb_cons (ss_set 6 nd rfl (by first | exact Or.inl rfl | exact Or.inr rfl) (se_call (O.o__law_saying) hr (pas_of (takes_of rfl rfl rfl rfl)) rfl T.m__law_saying T.F__law_saying.kp T.b__law_saying (sa_cons (se_var 0) (sa_cons (se_var 1) (sa_cons (se_var 2) (sa_cons (se_op os_sub noX_sub (se_var 3) se_int) sa_nil))))))
    (sb_one (ss_ret (se_tup (sa_cons (se_var 5) (sa_cons (se_var 6) (sa_cons (se_call (O.o__law_saying) hr (pas_of (takes_of rfl rfl rfl rfl)) rfl T.m__law_saying T.F__law_saying.kp T.b__law_saying (sa_cons (se_var 0) (sa_cons (se_var 1) (sa_cons (se_var 2) (sa_cons (se_op os_sub noX_sub (se_var 3) se_int) sa_nil))))) sa_nil))))))))))))
set_option maxHeartbeats 4000000 in
theorem sim_law_counted {k : Nat} (T : Txt w K mg) (O : Oks P base T k) (cdv : Value) (A : Around) (outer : List Env) (s : Shared) (H : Hp) (E : XK) (hr : Room k (A.deeper (PyProof.Rows.envOfC "_law_counted" (defScope s_law_counted) s.heap.objs.size T.a__law_counted cdv))) :
    SimB (cxOf (L2.CX P w) P w K mg base n_law_counted "_law_counted" (defScope s_law_counted) T.a__law_counted cdv A outer s H E) (fun cls d _ H2 => E cls d H2) (defBody s_law_counted) (b_law_counted (call k)) := by
  have nd := sc_law_counted.nd
  have hu66 := hr.un
  have hu64 : (A.deeper (PyProof.Rows.envOfC "_law_counted" (defScope s_law_counted) s.heap.objs.size T.a__law_counted cdv)).units + 64 < cLine := by omega
  have hu1 : (A.deeper (PyProof.Rows.envOfC "_law_counted" (defScope s_law_counted) s.heap.objs.size T.a__law_counted cdv)).units + 1 < cLine := by omega
  replace hu66 : (A.deeper (PyProof.Rows.envOfC "_law_counted" (defScope s_law_counted) s.heap.objs.size T.a__law_counted cdv)).units + 66 < cLine := by omega
  exact (sb_cons (ss_set 2 nd rfl (by first | exact Or.inl rfl | exact Or.inr rfl) (SimL.val (sl_lst (sa_cons se_str (sa_cons se_str (sa_cons se_str (sa_cons se_str (sa_cons se_str (sa_cons se_str (sa_cons se_str sa_nil))))))))))
    (sb_cons (ss_if (SimW.t (sw_or (st_cmp os_gt noX_gt (se_var 1) se_int (nomark _)) (sw_or (st_not (st_val (se_callB cs_isi rfl T.z_isinstance (by decide +kernel) (sa_cons (se_var 0) (sa_cons (se_ty "tuple" rfl T.z_tuple (by decide +kernel)) sa_nil))))) (sw_or (st_cmp (os_eq hu64) noX_eq (se_var 0) (se_tup sa_nil) (nomark _)) (sw_or1 (st_not (st_val (se_callB cs_isi rfl T.z_isinstance (by decide +kernel) (sa_cons (se_ix hu1 (se_var 0) se_int) (sa_cons (se_ty "str" rfl T.z_str (by decide +kernel)) sa_nil)))))))))) (sb_one (ss_ret se_int)) sb_nil)
    (sb_cons (ss_if (st_cmp (os_eq hu64) noX_eq (se_ix hu1 (se_var 0) se_int) se_str (nomark _)) (sb_cons (ss_set 4 nd rfl (by first | exact Or.inl rfl | exact Or.inr rfl) (se_if (st_cmp (os_eq hu64) noX_eq (se_callB cs_len rfl T.z_len (by decide +kernel) (sa_cons (se_var 0) sa_nil)) se_int (nomark _)) (se_ix hu1 (se_var 0) se_int) se_int))
    (sb_cons (ss_if (SimW.t (sw_or (st_not (st_val (se_callB cs_isi rfl T.z_isinstance (by decide +kernel) (sa_cons (se_var 4) (sa_cons (se_ty "str" rfl T.z_str (by decide +kernel)) sa_nil))))) (sw_or (st_not (st_chain os_le noX_le os_le noX_le se_int (se_callB cs_len rfl T.z_len (by decide +kernel) (sa_cons (se_var 4) sa_nil)) se_int)) (sw_or1 (st_cmp (os_in hu66) noX_in (se_var 4) (se_var 2) (by rfl)))))) (sb_one (ss_ret se_int)) sb_nil)
    (sb_one (ss_ret (se_if (st_val (se_callB (cs_all rfl) rfl T.z_all (by decide +kernel) (sa_cons (SimL.val (sl_comp rfl nd (si_str (se_var 4)) (blkOk_by (own := [("_law_sign", 6)]) (N := n_law_counted) (sc := defScope s_law_counted) (by decide +kernel)) (fun _ _ _ _ _ => (sg_name 6 nd rfl (by first | exact Or.inl rfl | exact Or.inr rfl))) (fun _ _ _ _ _ => ts_nil) (fun _ _ _ _ _ => (se_cmp (os_in hu66) noX_in (se_var 6) se_str (by rfl))))) sa_nil))) se_int se_int))))) sb_nil)
    (sb_cons (ss_set 3 nd rfl (by first | exact Or.inl rfl | exact Or.inr rfl) (se_bm PySem.F.plainAttrs_dict PySem.F.slot_dict_get PySem.F.type_dict_get (ms_get hu1) (SimD.val (sd_disp (sp_cons se_str se_int (sp_cons se_str se_int (sp_cons se_str se_int (sp_cons se_str se_int (sp_cons se_str se_int (sp_cons se_str se_int (sp_cons se_str se_int sp_nil))))))))) (sa_cons (se_ix hu1 (se_var 0) se_int) (sa_cons se_int sa_nil))))
    (sb_cons (ss_if (st_cmp (os_ne hu64) noX_ne (se_callB cs_len rfl T.z_len (by decide +kernel) (sa_cons (se_var 0) sa_nil)) (se_op os_add noX_add (se_var 3) se_int) (nomark _)) (sb_one (ss_ret se_int)) sb_nil)
    (sb_one (ss_ret (se_op os_add noX_add se_int (se_callB (cs_sum rfl) rfl T.z_sum (by decide +kernel) (sa_cons (SimL.val (sl_comp rfl nd (si_tup (se_slice (se_var 0) (so_some se_int) so_none)) (blkOk_by (own := [("_law_part", 5)]) (N := n_law_counted) (sc := defScope s_law_counted) (by decide +kernel)) (fun _ _ _ _ _ => (sg_name 5 nd rfl (by first | exact Or.inl rfl | exact Or.inr rfl))) (fun _ _ _ _ _ => ts_nil) (fun _ _ _ _ _ => (se_call (O.o__law_counted) hr pas_none rfl T.m__law_counted T.F__law_counted.kp T.b__law_counted (sa_cons (se_var 5) (sa_cons (se_op os_add noX_add (se_var 1) se_int) sa_nil)))))) sa_nil))))))))))
set_option maxHeartbeats 4000000 in
theorem sim_law_other {k : Nat} (T : Txt w K mg) (O : Oks P base T k) (cdv : Value) (A : Around) (outer : List Env) (s : Shared) (H : Hp) (E : XK) (hr : Room k (A.deeper (PyProof.Rows.envOfC "_law_other" (defScope s_law_other) s.heap.objs.size T.a__law_other cdv))) :
    SimB (cxOf (L2.CX P w) P w K mg base n_law_other "_law_other" (defScope s_law_other) T.a__law_other cdv A outer s H E) (fun cls d _ H2 => E cls d H2) (defBody s_law_other) (b_law_other (call k)) := by
  have nd := sc_law_other.nd
  have hu66 := hr.un
  have hu64 : (A.deeper (PyProof.Rows.envOfC "_law_other" (defScope s_law_other) s.heap.objs.size T.a__law_other cdv)).units + 64 < cLine := by omega
  have hu1 : (A.deeper (PyProof.Rows.envOfC "_law_other" (defScope s_law_other) s.heap.objs.size T.a__law_other cdv)).units + 1 < cLine := by omega
  replace hu66 : (A.deeper (PyProof.Rows.envOfC "_law_other" (defScope s_law_other) s.heap.objs.size T.a__law_other cdv)).units + 66 < cLine := by omega
  exact (sb_cons (ss_set 2 nd rfl (by first | exact Or.inl rfl | exact Or.inr rfl) (SimL.val (sl_lst (sa_cons se_str (sa_cons se_str (sa_cons se_str (sa_cons se_str (sa_cons se_str (sa_cons se_str (sa_cons se_str (sa_cons se_str (sa_cons se_str (sa_cons se_str (sa_cons se_int (sa_cons se_int (sa_cons se_bl (sa_cons se_non (sa_cons (se_tup sa_nil) (sa_cons (se_tup (sa_cons se_str sa_nil)) sa_nil)))))))))))))))))))
    (sb_cons (ss_set 2 nd rfl (by first | exact Or.inl rfl | exact Or.inr rfl) (se_op os_add noX_add (se_var 2) (SimL.val (sl_lst (sa_cons (SimL.val (sl_lst (sa_cons se_str sa_nil))) (sa_cons (se_tup (sa_cons se_str (sa_cons se_int sa_nil))) (sa_cons (se_tup (sa_cons se_str (sa_cons se_str sa_nil))) (sa_cons (se_tup (sa_cons se_str (sa_cons se_str sa_nil))) (sa_cons (se_tup (sa_cons se_str (sa_cons se_str (sa_cons se_str sa_nil)))) (sa_cons (se_tup (sa_cons se_str sa_nil)) (sa_cons (se_tup (sa_cons se_str sa_nil)) sa_nil)))))))))))
    (sb_cons (ss_set 3 nd rfl (by first | exact Or.inl rfl | exact Or.inr rfl) (se_ix hu1 (SimL.val (sl_lst (sa_cons se_str (sa_cons se_str (sa_cons se_str (sa_cons se_str (sa_cons se_str (sa_cons se_str (sa_cons se_str sa_nil))))))))) (se_call (O.o__law_draw) hr (pas_of (takes_of rfl rfl rfl rfl)) rfl T.m__law_draw T.F__law_draw.kp T.b__law_draw (sa_cons (se_var 0) (sa_cons se_int sa_nil)))))
    (sb_cons (ss_set 2 nd rfl (by first | exact Or.inl rfl | exact Or.inr rfl) (se_op os_add noX_add (se_var 2) (SimL.val (sl_lst (sa_cons (se_tup (sa_cons se_str (sa_cons se_int sa_nil))) (sa_cons (se_tup (sa_cons se_str (sa_cons (se_var 3) sa_nil))) (sa_cons (se_tup (sa_cons se_str (sa_cons se_str sa_nil))) sa_nil)))))))
    (sb_cons (ss_set 2 nd rfl (by first | exact Or.inl rfl | exact Or.inr rfl) (se_op os_add noX_add (se_var 2) (SimL.val (sl_lst (sa_cons (se_tup (sa_cons se_str (sa_cons (se_tup (sa_cons se_str sa_nil)) sa_nil))) (sa_cons (se_tup (sa_cons se_str (sa_cons (se_tup (sa_cons se_str sa_nil)) (sa_cons (se_tup (sa_cons se_str sa_nil)) (sa_cons (se_tup (sa_cons se_str sa_nil)) sa_nil))))) (sa_cons (se_tup (sa_cons se_str (sa_cons (se_tup (sa_cons se_str (sa_cons se_str sa_nil))) sa_nil))) (sa_cons (se_tup (sa_cons (se_tup (sa_cons se_str sa_nil)) sa_nil)) (sa_cons se_str sa_nil)))))))))
    (sb_one (ss_ret (se_ix hu1 (se_var 2) (se_call (O.o__law_draw) hr (pas_of (takes_of rfl rfl rfl rfl)) rfl T.m__law_draw T.F__law_draw.kp T.b__law_draw (sa_cons (se_var 0) (sa_cons (se_callB cs_len rfl T.z_len (by decide +kernel) (sa_cons (se_var 2) sa_nil)) sa_nil)))))))))))
set_option maxHeartbeats 4000000 in
theorem sim_law_bent {k : Nat} (T : Txt w K mg) (O : Oks P base T k) (cdv : Value) (A : Around) (outer : List Env) (s : Shared) (H : Hp) (E : XK) (hr : Room k (A.deeper (PyProof.Rows.envOfC "_law_bent" (defScope s_law_bent) s.heap.objs.size T.a__law_bent cdv))) :
    SimB (cxOf (L2.CX P w) P w K mg base n_law_bent "_law_bent" (defScope s_law_bent) T.a__law_bent cdv A outer s H E) (fun cls d _ H2 => E cls d H2) (defBody s_law_bent) (b_law_bent (call k)) := by
  have nd := sc_law_bent.nd
  have hu66 := hr.un
  have hu64 : (A.deeper (PyProof.Rows.envOfC "_law_bent" (defScope s_law_bent) s.heap.objs.size T.a__law_bent cdv)).units + 64 < cLine := by omega
  have hu1 : (A.deeper (PyProof.Rows.envOfC "_law_bent" (defScope s_law_bent) s.heap.objs.size T.a__law_bent cdv)).units + 1 < cLine := by omega
  replace hu66 : (A.deeper (PyProof.Rows.envOfC "_law_bent" (defScope s_law_bent) s.heap.objs.size T.a__law_bent cdv)).units + 66 < cLine := by omega
  exact (sb_cons (ss_if (SimW.t (sw_or (st_not (st_val (se_callB cs_isi rfl T.z_isinstance (by decide +kernel) (sa_cons (se_var 1) (sa_cons (se_ty "tuple" rfl T.z_tuple (by decide +kernel)) sa_nil))))) (sw_or (st_cmp (os_eq hu64) noX_eq (se_var 1) (se_tup sa_nil) (nomark _)) (sw_or1 (st_cmp (os_eq hu64) noX_eq (se_call (O.o__law_draw) hr (pas_of (takes_of rfl rfl rfl rfl)) rfl T.m__law_draw T.F__law_draw.kp T.b__law_draw (sa_cons (se_var 0) (sa_cons se_int sa_nil))) se_int (nomark _)))))) (sb_one (ss_ret (se_call (O.o__law_other) hr (pas_of (takes_of rfl rfl rfl rfl)) rfl T.m__law_other T.F__law_other.kp T.b__law_other (sa_cons (se_var 0) (sa_cons (se_var 1) sa_nil))))) sb_nil)
    (sb_cons (ss_set 2 nd rfl (by first | exact Or.inl rfl | exact Or.inr rfl) (se_call (O.o__law_draw) hr (pas_of (takes_of rfl rfl rfl rfl)) rfl T.m__law_draw T.F__law_draw.kp T.b__law_draw (sa_cons (se_var 0) (sa_cons (se_callB cs_len rfl T.z_len (by decide +kernel) (sa_cons (se_var 1) sa_nil)) sa_nil))))
    (sb_cons (ss_set 3 nd rfl (by first | exact Or.inl rfl | exact Or.inr rfl) (se_op os_mul noX_mul (SimL.val (sl_lst (sa_cons (se_op os_add noX_add (se_op os_add noX_add (se_slice (se_var 1) so_none (so_some (se_var 2))) (se_tup (sa_cons (se_call (O.o__law_bent) hr (pas_of (takes_of rfl rfl rfl rfl)) rfl T.m__law_bent T.F__law_bent.kp T.b__law_bent (sa_cons (se_var 0) (sa_cons (se_ix hu1 (se_var 1) (se_var 2)) sa_nil))) sa_nil))) (se_slice (se_var 1) (so_some (se_op os_add noX_add (se_var 2) se_int)) so_none)) sa_nil))) se_int))
    (sb_cons (ss_set 3 nd rfl (by first | exact Or.inl rfl | exact Or.inr rfl) (se_op os_add noX_add (se_var 3) (SimL.val (sl_lst (sa_cons (se_op os_add noX_add (se_slice (se_var 1) so_none (so_some (se_var 2))) (se_slice (se_var 1) (so_some (se_op os_add noX_add (se_var 2) se_int)) so_none)) (sa_cons (se_op os_add noX_add (se_var 1) (se_tup (sa_cons (se_tup (sa_cons se_str sa_nil)) sa_nil))) (sa_cons (SimL.val (sl_callTy cl_list rfl T.z_list (by decide +kernel) (sa_cons (se_var 1) sa_nil))) sa_nil)))))))
    (sb_one (ss_ret (se_ix hu1 (se_var 3) (se_call (O.o__law_draw) hr (pas_of (takes_of rfl rfl rfl rfl)) rfl T.m__law_draw T.F__law_draw.kp T.b__law_draw (sa_cons (se_var 0) (sa_cons se_int sa_nil))))))))))
set_option maxHeartbeats 4000000 in
theorem sim_law_long {k : Nat} (T : Txt w K mg) (O : Oks P base T k) (cdv : Value) (A : Around) (outer : List Env) (s : Shared) (H : Hp) (E : XK) (hr : Room k (A.deeper (PyProof.Rows.envOfC "_law_long" (defScope s_law_long) s.heap.objs.size T.a__law_long cdv))) :
    SimB (cxOf (L2.CX P w) P w K mg base n_law_long "_law_long" (defScope s_law_long) T.a__law_long cdv A outer s H E) (fun cls d _ H2 => E cls d H2) (defBody s_law_long) (b_law_long (call k)) := by
  have nd := sc_law_long.nd
  have hu66 := hr.un
  have hu64 : (A.deeper (PyProof.Rows.envOfC "_law_long" (defScope s_law_long) s.heap.objs.size T.a__law_long cdv)).units + 64 < cLine := by omega
  have hu1 : (A.deeper (PyProof.Rows.envOfC "_law_long" (defScope s_law_long) s.heap.objs.size T.a__law_long cdv)).units + 1 < cLine := by omega
  replace hu66 : (A.deeper (PyProof.Rows.envOfC "_law_long" (defScope s_law_long) s.heap.objs.size T.a__law_long cdv)).units + 66 < cLine := by omega
  exact (sb_cons (ss_set 2 nd rfl (by first | exact Or.inl rfl | exact Or.inr rfl) (se_call (O.o__law_draw) hr (pas_of (takes_of rfl rfl rfl rfl)) rfl T.m__law_draw T.F__law_draw.kp T.b__law_draw (sa_cons (se_var 0) (sa_cons se_int sa_nil))))
    (sb_cons (ss_set 3 nd rfl (by first | exact Or.inl rfl | exact Or.inr rfl) (se_op os_add noX_add se_int (se_call (O.o__law_draw) hr (pas_of (takes_of rfl rfl rfl rfl)) rfl T.m__law_draw T.F__law_draw.kp T.b__law_draw (sa_cons (se_var 0) (sa_cons se_int sa_nil)))))
    (sb_cons (ss_set 4 nd rfl (by first | exact Or.inl rfl | exact Or.inr rfl) (se_tup (sa_cons se_str (sa_cons (se_var 1) sa_nil))))
    (sb_cons (ss_if (st_cmp (os_eq hu64) noX_eq (se_var 2) se_int (nomark _)) (sb_cons (ss_for (passes_of rfl) rfl (si_range1 rfl T.z_range (sa_cons (se_op os_sub noX_sub (se_var 3) se_int) sa_nil)) (sg_name 6 nd rfl (by first | exact Or.inl rfl | exact Or.inr rfl)) (sb_one (ss_set 4 nd rfl (by first | exact Or.inl rfl | exact Or.inr rfl) (se_ix hu1 (SimL.val (sl_lst (sa_cons (se_tup (sa_cons se_str (sa_cons (se_var 4) sa_nil))) (sa_cons (se_tup (sa_cons se_str (sa_cons (se_var 4) (sa_cons (se_tup (sa_cons se_str sa_nil)) sa_nil)))) (sa_cons (se_tup (sa_cons se_str (sa_cons (se_tup (sa_cons se_str sa_nil)) (sa_cons (se_var 4) sa_nil)))) sa_nil))))) (se_call (O.o__law_draw) hr (pas_of (takes_of rfl rfl rfl rfl)) rfl T.m__law_draw T.F__law_draw.kp T.b__law_draw (sa_cons (se_var 0) (sa_cons se_int sa_nil)))))))
    (sb_one (ss_ret (se_var 4)))) sb_nil)
    (sb_cons (ss_set 5 nd rfl (by first | exact Or.inl rfl | exact Or.inr rfl) (se_op os_mul noX_mul (SimL.val (sl_lst (sa_cons (se_tup (sa_cons se_str (sa_cons (se_var 1) sa_nil))) sa_nil))) (se_op os_add noX_add se_int (se_call (O.o__law_draw) hr (pas_of (takes_of rfl rfl rfl rfl)) rfl T.m__law_draw T.F__law_draw.kp T.b__law_draw (sa_cons (se_var 0) (sa_cons se_int sa_nil))))))
    (sb_cons (ss_while 100 (passes_of rfl) (st_cmp os_gt noX_gt (se_callB cs_len rfl T.z_len (by decide +kernel) (sa_cons (se_var 5) sa_nil)) se_int (nomark _)) (sb_cons (ss_set 7 nd rfl (by first | exact Or.inl rfl | exact Or.inr rfl) (se_slice (se_var 5) (so_some (se_op os_mul noX_mul (se_op os_fdiv noX_fdiv (se_callB cs_len rfl T.z_len (by decide +kernel) (sa_cons (se_var 5) sa_nil)) se_int) se_int)) so_none))
    (sb_one (ss_set 5 nd rfl (by first | exact Or.inl rfl | exact Or.inr rfl) (se_op os_add noX_add (SimL.val (sl_comp rfl nd (si_range3 rfl T.z_range (sa_cons se_int (sa_cons (se_op os_sub noX_sub (se_callB cs_len rfl T.z_len (by decide +kernel) (sa_cons (se_var 5) sa_nil)) se_int) (sa_cons se_int sa_nil)))) (blkOk_by (own := [("_law_k", 6)]) (N := n_law_long) (sc := defScope s_law_long) (by decide +kernel)) (fun _ _ _ _ _ => (sg_name 6 nd rfl (by first | exact Or.inl rfl | exact Or.inr rfl))) (fun _ _ _ _ _ => ts_nil) (fun _ _ _ _ _ => (se_tup (sa_cons se_str (sa_cons (se_ix hu1 (se_var 5) (se_var 6)) (sa_cons (se_ix hu1 (se_var 5) (se_op os_add noX_add (se_var 6) se_int)) sa_nil))))))) (se_var 7))))))
    (sb_one (ss_ret (se_if (st_cmp (os_eq hu64) noX_eq (se_var 2) se_int (nomark _)) (se_ix hu1 (se_var 5) se_int) (se_tup (sa_cons se_str (sa_cons (se_ix hu1 (se_var 5) se_int) sa_nil))))))))))))
set_option maxHeartbeats 4000000 in
theorem sim_law {k : Nat} (T : Txt w K mg) (O : Oks P base T k) (cdv : Value) (A : Around) (outer : List Env) (s : Shared) (H : Hp) (E : XK) (hr : Room k (A.deeper (PyProof.Rows.envOfC "law" (defScope s_law) s.heap.objs.size T.a_law cdv))) :
    SimB (cxOf (L2.CX P w) P w K mg base n_law "law" (defScope s_law) T.a_law cdv A outer s H E) (fun cls d _ H2 => E cls d H2) (defBody s_law) (b_law (call k)) := by
  have nd := sc_law.nd
  have hu66 := hr.un
  have hu64 : (A.deeper (PyProof.Rows.envOfC "law" (defScope s_law) s.heap.objs.size T.a_law cdv)).units + 64 < cLine := by omega
  have hu1 : (A.deeper (PyProof.Rows.envOfC "law" (defScope s_law) s.heap.objs.size T.a_law cdv)).units + 1 < cLine := by omega
  replace hu66 : (A.deeper (PyProof.Rows.envOfC "law" (defScope s_law) s.heap.objs.size T.a_law cdv)).units + 66 < cLine := by omega
  exact (sb_cons (ss_set 1 nd rfl (by first | exact Or.inl rfl | exact Or.inr rfl) (se_call (O.o__law_tape) hr (pas_of (takes_of rfl rfl rfl rfl)) rfl T.m__law_tape T.F__law_tape.kp T.b__law_tape (sa_cons (se_var 0) sa_nil)))
    (sb_cons (ss_set 2 nd rfl (by first | exact Or.inl rfl | exact Or.inr rfl) (se_call (O.o__law_words) hr (pas_of (takes_of rfl rfl rfl rfl)) rfl T.m__law_words T.F__law_words.kp T.b__law_words (sa_cons (se_var 1) (sa_cons se_int sa_nil))))
    (sb_cons (ss_for (passes_of rfl) rfl (si_range1 rfl T.z_range (sa_cons se_int sa_nil)) (sg_name 3 nd rfl (by first | exact Or.inl rfl | exact Or.inr rfl)) (sb_cons (ss_set 4 nd rfl (by first | exact Or.inl rfl | exact Or.inr rfl) (se_call (O.o__law_saying) hr (pas_of (takes_of rfl rfl rfl rfl)) rfl T.m__law_saying T.F__law_saying.kp T.b__law_saying (sa_cons (se_var 1) (sa_cons (se_var 2) (sa_cons (SimL.loc (sl_lst (sa_cons (se_ix hu1 (SimL.val (sl_lst (sa_cons se_int (sa_cons se_int (sa_cons se_int sa_nil))))) (se_call (O.o__law_draw) hr (pas_of (takes_of rfl rfl rfl rfl)) rfl T.m__law_draw T.F__law_draw.kp T.b__law_draw (sa_cons (se_var 1) (sa_cons se_int sa_nil)))) sa_nil))) (sa_cons se_int sa_nil))))))
    (sb_cons (ss_set 5 nd rfl (by first | exact Or.inl rfl | exact Or.inr rfl) (SimL.val (sl_lst (sa_cons (se_var 4) (sa_cons (se_call (O.o__law_bent) hr (pas_of (takes_of rfl rfl rfl rfl)) rfl T.m__law_bent T.F__law_bent.kp T.b__law_bent (sa_cons (se_var 1) (sa_cons (se_var 4) sa_nil))) (sa_cons (se_call (O.o__law_long) hr (pas_of (takes_of rfl rfl rfl rfl)) rfl T.m__law_long T.F__law_long.kp T.b__law_long (sa_cons (se_var 1) (sa_cons (se_ix hu1 (se_var 2) se_int) sa_nil))) (sa_cons (se_call (O.o__law_bent) hr (pas_of (takes_of rfl rfl rfl rfl)) rfl T.m__law_bent T.F__law_bent.kp T.b__law_bent (sa_cons (se_var 1) (sa_cons (se_call (O.o__law_bent) hr (pas_of (takes_of rfl rfl rfl rfl)) rfl T.m__law_bent T.F__law_bent.kp T.b__law_bent (sa_cons (se_var 1) (sa_cons (se_var 4) sa_nil))) sa_nil))) sa_nil)))))))
    (sb_one (ss_for (passes_of rfl) rfl (si_list (se_op os_add noX_add (se_var 5) (SimL.val (sl_lst (sa_cons se_non (sa_cons se_int (sa_cons se_str (sa_cons se_bl (sa_cons (SimL.val (sl_lst (sa_cons (se_var 4) sa_nil))) (sa_cons (se_ix hu1 (se_var 2) se_int) sa_nil)))))))))) (sg_name 6 nd rfl (by first | exact Or.inl rfl | exact Or.inr rfl)) (sb_cons (ss_set 7 nd rfl (by first | exact Or.inl rfl | exact Or.inr rfl) (se_call (O.o_is_saying) hr (pas_of (takes_of rfl rfl rfl rfl)) rfl T.m_is_saying T.F_is_saying.kp T.b_is_saying (sa_cons (se_var 6) sa_nil)))
    (sb_one (ss_if (SimW.t (sw_or (st_not (st_val (se_callB cs_isi rfl T.z_isinstance (by decide +kernel) (sa_cons (se_var 7) (sa_cons (se_ty "bool" rfl T.z_bool (by decide +kernel)) sa_nil))))) (sw_or1 (st_cmp (os_ne hu64) noX_ne (se_var 7) (se_cmp os_le noX_le (se_call (O.o__law_counted) hr (pas_of (takes_of rfl rfl rfl rfl)) rfl T.m__law_counted T.F__law_counted.kp T.b__law_counted (sa_cons (se_var 6) (sa_cons se_int sa_nil))) se_int (nomark _)) (nomark _))))) (sb_one (ss_ret se_bl)) sb_nil))))))))
    (sb_one (ss_ret se_bl)))))
theorem oks (T : Txt w K mg) : ∀ k, Oks P base T k
  | 0 => ⟨fn_zero (fun _ _ => rfl) _, fn_zero (fun _ _ => rfl) _, fn_zero (fun _ _ => rfl) _, fn_zero (fun _ _ => rfl) _, fn_zero (fun _ _ => rfl) _, fn_zero (fun _ _ => rfl) _, fn_zero (fun _ _ => rfl) _, fn_zero (fun _ _ => rfl) _, fn_zero (fun _ _ => rfl) _, fn_zero (fun _ _ => rfl) _, fn_zero (fun _ _ => rfl) _, fn_zero (fun _ _ => rfl) _⟩
  | k + 1 => by
    have O := oks T k
    exact ⟨fn_sim T.F_is_word sc_is_word (fun _ _ _ => rfl) (sim_is_word T O),
      fn_sim T.F_parts_in sc_parts_in (fun _ _ _ => rfl) (sim_parts_in T O),
      fn_sim T.F_is_saying sc_is_saying (fun _ _ _ => rfl) (sim_is_saying T O),
      fn_sim T.F__law_tape sc_law_tape (fun _ _ _ => rfl) (sim_law_tape T O),
      fn_sim T.F__law_draw sc_law_draw (fun _ _ _ => rfl) (sim_law_draw T O),
      fn_sim T.F__law_words sc_law_words (fun _ _ _ => rfl) (sim_law_words T O),
      fn_sim T.F__law_saying sc_law_saying (fun _ _ _ => rfl) (sim_law_saying T O),
      fn_sim T.F__law_counted sc_law_counted (fun _ _ _ => rfl) (sim_law_counted T O),
      fn_sim T.F__law_other sc_law_other (fun _ _ _ => rfl) (sim_law_other T O),
      fn_sim T.F__law_bent sc_law_bent (fun _ _ _ => rfl) (sim_law_bent T O),
      fn_sim T.F__law_long sc_law_long (fun _ _ _ => rfl) (sim_law_long T O),
      fn_sim T.F_law sc_law (fun _ _ _ => rfl) (sim_law T O)⟩
end

end Law

set_option Elab.async false
set_option linter.all false
set_option maxRecDepth 100000
namespace Law
open PySem PySem.Spec L2 DL
/-! ### the end -/
theorem all_mk {w : World} {K : PySem.W.Frag} {h : Heap} {mg : Str → Option Value} {fa : Addr} (X : K.In h) (G : h.Ns mainGlobals mg) (hfa : mg "law" = some (.ref fa))
    {x_is_word : Addr} {od_is_word an_is_word : Option Addr} {sl_is_word : Array (Option Value)} {oc_is_word kV_is_word dc_is_word pm_is_word cd_is_word ct_is_word : Value}
    {x_parts_in : Addr} {od_parts_in an_parts_in : Option Addr} {sl_parts_in : Array (Option Value)} {oc_parts_in kV_parts_in dc_parts_in pm_parts_in cd_parts_in ct_parts_in : Value}
    {x_is_saying : Addr} {od_is_saying an_is_saying : Option Addr} {sl_is_saying : Array (Option Value)} {oc_is_saying kV_is_saying dc_is_saying pm_is_saying cd_is_saying ct_is_saying : Value}
    {x__law_tape : Addr} {od__law_tape an__law_tape : Option Addr} {sl__law_tape : Array (Option Value)} {oc__law_tape kV__law_tape dc__law_tape pm__law_tape cd__law_tape ct__law_tape : Value}
    {x__law_draw : Addr} {od__law_draw an__law_draw : Option Addr} {sl__law_draw : Array (Option Value)} {oc__law_draw kV__law_draw dc__law_draw pm__law_draw cd__law_draw ct__law_draw : Value}
    {x__law_words : Addr} {od__law_words an__law_words : Option Addr} {sl__law_words : Array (Option Value)} {oc__law_words kV__law_words dc__law_words pm__law_words cd__law_words ct__law_words : Value}
    {x__law_saying : Addr} {od__law_saying an__law_saying : Option Addr} {sl__law_saying : Array (Option Value)} {oc__law_saying kV__law_saying dc__law_saying pm__law_saying cd__law_saying ct__law_saying : Value}
    {x__law_counted : Addr} {od__law_counted an__law_counted : Option Addr} {sl__law_counted : Array (Option Value)} {oc__law_counted kV__law_counted dc__law_counted pm__law_counted cd__law_counted ct__law_counted : Value}
    {x__law_other : Addr} {od__law_other an__law_other : Option Addr} {sl__law_other : Array (Option Value)} {oc__law_other kV__law_other dc__law_other pm__law_other cd__law_other ct__law_other : Value}
    {x__law_bent : Addr} {od__law_bent an__law_bent : Option Addr} {sl__law_bent : Array (Option Value)} {oc__law_bent kV__law_bent dc__law_bent pm__law_bent cd__law_bent ct__law_bent : Value}
    {x__law_long : Addr} {od__law_long an__law_long : Option Addr} {sl__law_long : Array (Option Value)} {oc__law_long kV__law_long dc__law_long pm__law_long cd__law_long ct__law_long : Value}
    {x_law : Addr} {od_law an_law : Option Addr} {sl_law : Array (Option Value)} {oc_law kV_law dc_law pm_law cd_law ct_law : Value}
    {x_DEEPEST : Tok}
    {x_LETTERS : Tok}
    {x_LONGEST_WORD : Tok}
    {x_MANY : Addr} {es_MANY : List DictEntry} {n_MANY : Nat}
    {x_MOST_PARTS : Tok}
    {x_WORDS_OF_TEXTS : Addr} {o_WORDS_OF_TEXTS : Obj} {its_WORDS_OF_TEXTS : Array Value} {n_WORDS_OF_TEXTS : Nat}
    (a_is_word : PySem.W.nsIn K mainGlobals "is_word" = some (some (.ref x_is_word)))
    (l_is_word : K.lookup x_is_word = some ⟨oc_is_word, od_is_word, .func (PySem.W.fnOf "is_word" "is_word" (defArgs s_is_word) (defBody s_is_word) (defScope s_is_word) .none kV_is_word dc_is_word pm_is_word an_is_word cd_is_word ct_is_word), sl_is_word⟩)
    (c_is_word : PySem.W.codeIn K cd_is_word "is_word" = true)
    (k_is_word : PySem.W.keepIn K (.ref x_is_word) = true)
    (a_parts_in : PySem.W.nsIn K mainGlobals "parts_in" = some (some (.ref x_parts_in)))
    (l_parts_in : K.lookup x_parts_in = some ⟨oc_parts_in, od_parts_in, .func (PySem.W.fnOf "parts_in" "parts_in" (defArgs s_parts_in) (defBody s_parts_in) (defScope s_parts_in) .none kV_parts_in dc_parts_in pm_parts_in an_parts_in cd_parts_in ct_parts_in), sl_parts_in⟩)
    (c_parts_in : PySem.W.codeIn K cd_parts_in "parts_in" = true)
    (k_parts_in : PySem.W.keepIn K (.ref x_parts_in) = true)
    (a_is_saying : PySem.W.nsIn K mainGlobals "is_saying" = some (some (.ref x_is_saying)))
    (l_is_saying : K.lookup x_is_saying = some ⟨oc_is_saying, od_is_saying, .func (PySem.W.fnOf "is_saying" "is_saying" (defArgs s_is_saying) (defBody s_is_saying) (defScope s_is_saying) .none kV_is_saying dc_is_saying pm_is_saying an_is_saying cd_is_saying ct_is_saying), sl_is_saying⟩)
    (c_is_saying : PySem.W.codeIn K cd_is_saying "is_saying" = true)
    (k_is_saying : PySem.W.keepIn K (.ref x_is_saying) = true)
    (a__law_tape : PySem.W.nsIn K mainGlobals "_law_tape" = some (some (.ref x__law_tape)))
    (l__law_tape : K.lookup x__law_tape = some ⟨oc__law_tape, od__law_tape, .func (PySem.W.fnOf "_law_tape" "_law_tape" (defArgs s_law_tape) (defBody s_law_tape) (defScope s_law_tape) .none kV__law_tape dc__law_tape pm__law_tape an__law_tape cd__law_tape ct__law_tape), sl__law_tape⟩)
    (c__law_tape : PySem.W.codeIn K cd__law_tape "_law_tape" = true)
    (k__law_tape : PySem.W.keepIn K (.ref x__law_tape) = true)
    (a__law_draw : PySem.W.nsIn K mainGlobals "_law_draw" = some (some (.ref x__law_draw)))
    (l__law_draw : K.lookup x__law_draw = some ⟨oc__law_draw, od__law_draw, .func (PySem.W.fnOf "_law_draw" "_law_draw" (defArgs s_law_draw) (defBody s_law_draw) (defScope s_law_draw) .none kV__law_draw dc__law_draw pm__law_draw an__law_draw cd__law_draw ct__law_draw), sl__law_draw⟩)
    (c__law_draw : PySem.W.codeIn K cd__law_draw "_law_draw" = true)
    (k__law_draw : PySem.W.keepIn K (.ref x__law_draw) = true)
    (a__law_words : PySem.W.nsIn K mainGlobals "_law_words" = some (some (.ref x__law_words)))
    (l__law_words : K.lookup x__law_words = some ⟨oc__law_words, od__law_words, .func (PySem.W.fnOf "_law_words" "_law_words" (defArgs s_law_words) (defBody s_law_words) (defScope s_law_words) .none kV__law_words dc__law_words pm__law_words an__law_words cd__law_words ct__law_words), sl__law_words⟩)
    (c__law_words : PySem.W.codeIn K cd__law_words "_law_words" = true)
    (k__law_words : PySem.W.keepIn K (.ref x__law_words) = true)
    (a__law_saying : PySem.W.nsIn K mainGlobals "_law_saying" = some (some (.ref x__law_saying)))
    (l__law_saying : K.lookup x__law_saying = some ⟨oc__law_saying, od__law_saying, .func (PySem.W.fnOf "_law_saying" "_law_saying" (defArgs s_law_saying) (defBody s_law_saying) (defScope s_law_saying) .none kV__law_saying dc__law_saying pm__law_saying an__law_saying cd__law_saying ct__law_saying), sl__law_saying⟩)
    (c__law_saying : PySem.W.codeIn K cd__law_saying "_law_saying" = true)
    (k__law_saying : PySem.W.keepIn K (.ref x__law_saying) = true)
    (a__law_counted : PySem.W.nsIn K mainGlobals "_law_counted" = some (some (.ref x__law_counted)))
    (l__law_counted : K.lookup x__law_counted = some ⟨oc__law_counted, od__law_counted, .func (PySem.W.fnOf "_law_counted" "_law_counted" (defArgs s_law_counted) (defBody s_law_counted) (defScope s_law_counted) .none kV__law_counted dc__law_counted pm__law_counted an__law_counted cd__law_counted ct__law_counted), sl__law_counted⟩)
    (c__law_counted : PySem.W.codeIn K cd__law_counted "_law_counted" = true)
    (k__law_counted : PySem.W.keepIn K (.ref x__law_counted) = true)
    (a__law_other : PySem.W.nsIn K mainGlobals "_law_other" = some (some (.ref x__law_other)))
    (l__law_other : K.lookup x__law_other = some ⟨oc__law_other, od__law_other, .func (PySem.W.fnOf "_law_other" "_law_other" (defArgs s_law_other) (defBody s_law_other) (defScope s_law_other) .none kV__law_other dc__law_other pm__law_other an__law_other cd__law_other ct__law_other), sl__law_other⟩)
    (c__law_other : PySem.W.codeIn K cd__law_other "_law_other" = true)
    (k__law_other : PySem.W.keepIn K (.ref x__law_other) = true)
    (a__law_bent : PySem.W.nsIn K mainGlobals "_law_bent" = some (some (.ref x__law_bent)))
    (l__law_bent : K.lookup x__law_bent = some ⟨oc__law_bent, od__law_bent, .func (PySem.W.fnOf "_law_bent" "_law_bent" (defArgs s_law_bent) (defBody s_law_bent) (defScope s_law_bent) .none kV__law_bent dc__law_bent pm__law_bent an__law_bent cd__law_bent ct__law_bent), sl__law_bent⟩)
    (c__law_bent : PySem.W.codeIn K cd__law_bent "_law_bent" = true)
    (k__law_bent : PySem.W.keepIn K (.ref x__law_bent) = true)
    (a__law_long : PySem.W.nsIn K mainGlobals "_law_long" = some (some (.ref x__law_long)))
    (l__law_long : K.lookup x__law_long = some ⟨oc__law_long, od__law_long, .func (PySem.W.fnOf "_law_long" "_law_long" (defArgs s_law_long) (defBody s_law_long) (defScope s_law_long) .none kV__law_long dc__law_long pm__law_long an__law_long cd__law_long ct__law_long), sl__law_long⟩)
    (c__law_long : PySem.W.codeIn K cd__law_long "_law_long" = true)
    (k__law_long : PySem.W.keepIn K (.ref x__law_long) = true)
    (a_law : PySem.W.nsIn K mainGlobals "law" = some (some (.ref x_law)))
    (l_law : K.lookup x_law = some ⟨oc_law, od_law, .func (PySem.W.fnOf "law" "law" (defArgs s_law) (defBody s_law) (defScope s_law) .none kV_law dc_law pm_law an_law cd_law ct_law), sl_law⟩)
    (c_law : PySem.W.codeIn K cd_law "law" = true)
    (k_law : PySem.W.keepIn K (.ref x_law) = true)
    (a_DEEPEST : PySem.W.nsIn K mainGlobals "DEEPEST" = some (some (.int 25 x_DEEPEST)))
    (a_LETTERS : PySem.W.nsIn K mainGlobals "LETTERS" = some (some (.str "abcdefghijklmnopqrstuvwxyz" x_LETTERS)))
    (a_LONGEST_WORD : PySem.W.nsIn K mainGlobals "LONGEST_WORD" = some (some (.int 8 x_LONGEST_WORD)))
    (a_MANY : PySem.W.nsIn K mainGlobals "MANY" = some (some (.ref x_MANY)))
    (l_MANY : K.lookup x_MANY = some ⟨.type "dict", none, .dict es_MANY.toArray n_MANY, #[]⟩)
    (q_MANY : PySem.W.KeysLit w.params es_MANY)
    (u_MANY : (x_MANY == sysModules) = false)
    (t_MANY : TabOk K es_MANY t_MANY)
    (a_MOST_PARTS : PySem.W.nsIn K mainGlobals "MOST_PARTS" = some (some (.int 400 x_MOST_PARTS)))
    (a_WORDS_OF_TEXTS : PySem.W.nsIn K mainGlobals "WORDS_OF_TEXTS" = some (some (.ref x_WORDS_OF_TEXTS)))
    (l_WORDS_OF_TEXTS : K.lookup x_WORDS_OF_TEXTS = some o_WORDS_OF_TEXTS)
    (h_WORDS_OF_TEXTS : o_WORDS_OF_TEXTS.cls = .type "tuple" ∧ o_WORDS_OF_TEXTS.data = .seq its_WORDS_OF_TEXTS n_WORDS_OF_TEXTS ∧ its_WORDS_OF_TEXTS.size ≤ sizeLine ∧ Vals [.str "not", .str "and", .str "or", .str "gives", .str "is", .str "yes", .str "no"] its_WORDS_OF_TEXTS.toList)
    (z_all : PySem.W.nsIn K mainGlobals "all" = some none)
    (z_bool : PySem.W.nsIn K mainGlobals "bool" = some none)
    (z_int : PySem.W.nsIn K mainGlobals "int" = some none)
    (z_isinstance : PySem.W.nsIn K mainGlobals "isinstance" = some none)
    (z_len : PySem.W.nsIn K mainGlobals "len" = some none)
    (z_list : PySem.W.nsIn K mainGlobals "list" = some none)
    (z_min : PySem.W.nsIn K mainGlobals "min" = some none)
    (z_range : PySem.W.nsIn K mainGlobals "range" = some none)
    (z_str : PySem.W.nsIn K mainGlobals "str" = some none)
    (z_sum : PySem.W.nsIn K mainGlobals "sum" = some none)
    (z_tuple : PySem.W.nsIn K mainGlobals "tuple" = some none) :
    ∃ fd : FuncData, (∀ (s : Shared) (v : Value), BindsTo s fd ⟨[v], []⟩ [("_law_script", v)]) ∧ ∀ base : Heap, K.In base → base.Ns mainGlobals mg → FnOk PySem.Challenge.pw_middlesay_k01_sayings_or_not w K mg base (L2.CX PySem.Challenge.pw_middlesay_k01_sayings_or_not w) 60 fa fd ["_law_script"] (spLaw K 63) := by
  have e := hfa.symm.trans (PySem.W.mg_of X G a_law)
  cases e
  have F_is_word := fun_mk (st := s_is_word) l_is_word c_is_word k_is_word
  have b_is_word := F_is_word.binds (ps := ["thing"]) fun _ _ _ _ _ _ us hl => match us, hl with | [_], _ => rfl
  have F_parts_in := fun_mk (st := s_parts_in) l_parts_in c_parts_in k_parts_in
  have b_parts_in := F_parts_in.binds (ps := ["thing", "deep"]) fun _ _ _ _ _ _ us hl => match us, hl with | [_, _], _ => rfl
  have F_is_saying := fun_mk (st := s_is_saying) l_is_saying c_is_saying k_is_saying
  have b_is_saying := F_is_saying.binds (ps := ["thing"]) fun _ _ _ _ _ _ us hl => match us, hl with | [_], _ => rfl
  have F__law_tape := fun_mk (st := s_law_tape) l__law_tape c__law_tape k__law_tape
  have b__law_tape := F__law_tape.binds (ps := ["_law_script"]) fun _ _ _ _ _ _ us hl => match us, hl with | [_], _ => rfl
  have F__law_draw := fun_mk (st := s_law_draw) l__law_draw c__law_draw k__law_draw
  have b__law_draw := F__law_draw.binds (ps := ["_law_tape_here", "_law_many"]) fun _ _ _ _ _ _ us hl => match us, hl with | [_, _], _ => rfl
  have F__law_words := fun_mk (st := s_law_words) l__law_words c__law_words k__law_words
  have b__law_words := F__law_words.binds (ps := ["_law_tape_here", "_law_many"]) fun _ _ _ _ _ _ us hl => match us, hl with | [_, _], _ => rfl
  have F__law_saying := fun_mk (st := s_law_saying) l__law_saying c__law_saying k__law_saying
  have b__law_saying := F__law_saying.binds (ps := ["_law_tape_here", "_law_names", "_law_left", "_law_deep"]) fun _ _ _ _ _ _ us hl => match us, hl with | [_, _, _, _], _ => rfl
  have F__law_counted := fun_mk (st := s_law_counted) l__law_counted c__law_counted k__law_counted
  have b__law_counted := F__law_counted.binds (ps := ["_law_thing", "_law_deep"]) fun _ _ _ _ _ _ us hl => match us, hl with | [_, _], _ => rfl
  have F__law_other := fun_mk (st := s_law_other) l__law_other c__law_other k__law_other
  have b__law_other := F__law_other.binds (ps := ["_law_tape_here", "_law_part"]) fun _ _ _ _ _ _ us hl => match us, hl with | [_, _], _ => rfl
  have F__law_bent := fun_mk (st := s_law_bent) l__law_bent c__law_bent k__law_bent
  have b__law_bent := F__law_bent.binds (ps := ["_law_tape_here", "_law_thing"]) fun _ _ _ _ _ _ us hl => match us, hl with | [_, _], _ => rfl
  have F__law_long := fun_mk (st := s_law_long) l__law_long c__law_long k__law_long
  have b__law_long := F__law_long.binds (ps := ["_law_tape_here", "_law_name"]) fun _ _ _ _ _ _ us hl => match us, hl with | [_, _], _ => rfl
  have F_law := fun_mk (st := s_law) l_law c_law k_law
  have b_law := F_law.binds (ps := ["_law_script"]) fun _ _ _ _ _ _ us hl => match us, hl with | [_], _ => rfl
  let T : Txt w K mg := ⟨x_is_word,
    _,
    F_is_word,
    PySem.W.mg_of X G a_is_word,
    b_is_word,
    x_parts_in,
    _,
    F_parts_in,
    PySem.W.mg_of X G a_parts_in,
    b_parts_in,
    x_is_saying,
    _,
    F_is_saying,
    PySem.W.mg_of X G a_is_saying,
    b_is_saying,
    x__law_tape,
    _,
    F__law_tape,
    PySem.W.mg_of X G a__law_tape,
    b__law_tape,
    x__law_draw,
    _,
    F__law_draw,
    PySem.W.mg_of X G a__law_draw,
    b__law_draw,
    x__law_words,
    _,
    F__law_words,
    PySem.W.mg_of X G a__law_words,
    b__law_words,
    x__law_saying,
    _,
    F__law_saying,
    PySem.W.mg_of X G a__law_saying,
    b__law_saying,
    x__law_counted,
    _,
    F__law_counted,
    PySem.W.mg_of X G a__law_counted,
    b__law_counted,
    x__law_other,
    _,
    F__law_other,
    PySem.W.mg_of X G a__law_other,
    b__law_other,
    x__law_bent,
    _,
    F__law_bent,
    PySem.W.mg_of X G a__law_bent,
    b__law_bent,
    x__law_long,
    _,
    F__law_long,
    PySem.W.mg_of X G a__law_long,
    b__law_long,
    fa,
    _,
    F_law,
    PySem.W.mg_of X G a_law,
    b_law,
    _,
    .int _,
    PySem.W.mg_of X G a_DEEPEST,
    ⟨_, rfl⟩,
    .int _,
    _,
    .str _,
    PySem.W.mg_of X G a_LETTERS,
    ⟨_, rfl⟩,
    .str _,
    _,
    .int _,
    PySem.W.mg_of X G a_LONGEST_WORD,
    ⟨_, rfl⟩,
    .int _,
    x_MANY,
    PySem.W.mg_of X G a_MANY,
    ⟨_, _, ⟨l_MANY, q_MANY, u_MANY⟩, t_MANY⟩,
    _,
    .int _,
    PySem.W.mg_of X G a_MOST_PARTS,
    ⟨_, rfl⟩,
    .int _,
    _,
    .ref x_WORDS_OF_TEXTS,
    PySem.W.mg_of X G a_WORDS_OF_TEXTS,
    rfl,
    .tup (.inr ⟨o_WORDS_OF_TEXTS, its_WORDS_OF_TEXTS, n_WORDS_OF_TEXTS, l_WORDS_OF_TEXTS, h_WORDS_OF_TEXTS⟩) (.cons (.str _) (.cons (.str _) (.cons (.str _) (.cons (.str _) (.cons (.str _) (.cons (.str _) (.cons (.str _) .nil))))))),
    PySem.W.mg_none_of X G z_all,
    PySem.W.mg_none_of X G z_bool,
    PySem.W.mg_none_of X G z_int,
    PySem.W.mg_none_of X G z_isinstance,
    PySem.W.mg_none_of X G z_len,
    PySem.W.mg_none_of X G z_list,
    PySem.W.mg_none_of X G z_min,
    PySem.W.mg_none_of X G z_range,
    PySem.W.mg_none_of X G z_str,
    PySem.W.mg_none_of X G z_sum,
    PySem.W.mg_none_of X G z_tuple⟩
  exact ⟨T.fd_law, fun s v => .of_eq rfl, fun base _ _ => law_of (oks T 60).o_law law_holds⟩
end Law
open PySem PySem.W PyProof.Rows
set_option maxRecDepth 100000 in
set_option maxHeartbeats 0 in
theorem PySem.Challenge.cw_middlesay_k01_sayings_or_not_holds : PySem.Challenge.rw_middlesay_k01_sayings_or_not.Holds := by
  w_on; o_law; k_head; (case hw => w_witness2)
  k_fill
  refine L2.walk_of (l := PySem.Challenge.rw_middlesay_k01_sayings_or_not) (n := 63) (k := 60) (x := "_law_script") (CX := fun w => L2.CX PySem.Challenge.pw_middlesay_k01_sayings_or_not w) (sp := fun w => DL.spLaw _ 63) rfl (by decide) rfl ⟨rfl, by decide, by decide⟩ (fun w h Y => PySem.W.kIn_of Y) ?F (fun _ _ a ns hl ho hS => ⟨a, ns, rfl, ho, hS, hl, fun _ => rfl⟩) (fun _ _ _ _ _ h => DL.cx_none h)
  case F =>
    intro w mg fa h KX G hmg
    refine' Law.all_mk KX G hmg ?a_is_word ?l_is_word ?c_is_word ?k_is_word ?a_parts_in ?l_parts_in ?c_parts_in ?k_parts_in ?a_is_saying ?l_is_saying ?c_is_saying ?k_is_saying ?a__law_tape ?l__law_tape ?c__law_tape ?k__law_tape ?a__law_draw ?l__law_draw ?c__law_draw ?k__law_draw ?a__law_words ?l__law_words ?c__law_words ?k__law_words ?a__law_saying ?l__law_saying ?c__law_saying ?k__law_saying ?a__law_counted ?l__law_counted ?c__law_counted ?k__law_counted ?a__law_other ?l__law_other ?c__law_other ?k__law_other ?a__law_bent ?l__law_bent ?c__law_bent ?k__law_bent ?a__law_long ?l__law_long ?c__law_long ?k__law_long ?a_law ?l_law ?c_law ?k_law ?a_DEEPEST ?a_LETTERS ?a_LONGEST_WORD ?a_MANY ?l_MANY ?q_MANY ?u_MANY ?t_MANY ?a_MOST_PARTS ?a_WORDS_OF_TEXTS ?l_WORDS_OF_TEXTS ?h_WORDS_OF_TEXTS ?z_all ?z_bool ?z_int ?z_isinstance ?z_len ?z_list ?z_min ?z_range ?z_str ?z_sum ?z_tuple
    (case a_is_word => k_is)
    (case l_is_word => k_is)
    (case c_is_word => k_is)
    (case k_is_word => k_is)
    (case a_parts_in => k_is)
    (case l_parts_in => k_is)
    (case c_parts_in => k_is)
    (case k_parts_in => k_is)
    (case a_is_saying => k_is)
    (case l_is_saying => k_is)
    (case c_is_saying => k_is)
    (case k_is_saying => k_is)
    (case a__law_tape => k_is)
    (case l__law_tape => k_is)
    (case c__law_tape => k_is)
    (case k__law_tape => k_is)
    (case a__law_draw => k_is)
    (case l__law_draw => k_is)
    (case c__law_draw => k_is)
    (case k__law_draw => k_is)
    (case a__law_words => k_is)
    (case l__law_words => k_is)
    (case c__law_words => k_is)
    (case k__law_words => k_is)
    (case a__law_saying => k_is)
    (case l__law_saying => k_is)
    (case c__law_saying => k_is)
    (case k__law_saying => k_is)
    (case a__law_counted => k_is)
    (case l__law_counted => k_is)
    (case c__law_counted => k_is)
    (case k__law_counted => k_is)
    (case a__law_other => k_is)
    (case l__law_other => k_is)
    (case c__law_other => k_is)
    (case k__law_other => k_is)
    (case a__law_bent => k_is)
    (case l__law_bent => k_is)
    (case c__law_bent => k_is)
    (case k__law_bent => k_is)
    (case a__law_long => k_is)
    (case l__law_long => k_is)
    (case c__law_long => k_is)
    (case k__law_long => k_is)
    (case a_law => k_is)
    (case l_law => k_is)
    (case c_law => k_is)
    (case k_law => k_is)
    (case a_DEEPEST => k_is)
    (case a_LETTERS => k_is)
    (case a_LONGEST_WORD => k_is)
    (case a_MANY => k_is)
    (case l_MANY => k_is)
    (case q_MANY => exact ⟨⟨_, _, rfl, rfl⟩, ⟨_, _, rfl, rfl⟩, ⟨_, _, rfl, rfl⟩, ⟨_, _, rfl, rfl⟩, ⟨_, _, rfl, rfl⟩, ⟨_, _, rfl, rfl⟩, ⟨_, _, rfl, rfl⟩, True.intro⟩)
    (case u_MANY => decide)
    (case t_MANY => exact (DL.TabOk.i rfl rfl (DL.TabOk.i rfl rfl (DL.TabOk.i rfl rfl (DL.TabOk.i rfl rfl (DL.TabOk.i rfl rfl (DL.TabOk.i rfl rfl (DL.TabOk.i rfl rfl .nil))))))))
    (case a_MOST_PARTS => k_is)
    (case a_WORDS_OF_TEXTS => k_is)
    (case l_WORDS_OF_TEXTS => k_is)
    (case h_WORDS_OF_TEXTS => exact ⟨rfl, rfl, by decide, (.cons ⟨_, rfl⟩ (.cons ⟨_, rfl⟩ (.cons ⟨_, rfl⟩ (.cons ⟨_, rfl⟩ (.cons ⟨_, rfl⟩ (.cons ⟨_, rfl⟩ (.cons ⟨_, rfl⟩ .nil)))))))⟩)
    (case z_all => k_is)
    (case z_bool => k_is)
    (case z_int => k_is)
    (case z_isinstance => k_is)
    (case z_len => k_is)
    (case z_list => k_is)
    (case z_min => k_is)
    (case z_range => k_is)
    (case z_str => k_is)
    (case z_sum => k_is)
    (case z_tuple => k_is)
