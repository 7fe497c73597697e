import PyProof.Rows.All
import Wide.All
import OpenK.AllK
import Wide.FinOn
import HandS.ForMost
import HandS.ForExc
import HandS.Flow
import HandS.IsInst
import HandS.Defaults
import HandS.Wide
import HandS.TupAny
import HandS.Deep
import HandS.Style
import HandS.More
import HandS.SortInts
import HandS.RaiseMore
import HandS.NoneIn
import HandS.ExcIs
import HandS.ExcOwn
import HandS.TryMany
import HandS.ExcValue
import HandS.HeadHook2
import HandS.HeadEnd
import HandS.Head2
import HandS.Ends
import PySem.Challenge.RW_coinlanes_k01_names_and_seals
set_option Elab.async false
set_option linter.all false
set_option maxRecDepth 100000
set_option maxHeartbeats 4000000
/-! Mi, part A: own values, own heap, how they stand for the hand layer's. -/
namespace Mi
open PySem PySem.Spec PyProof.Rows L2
/-- a value: tuples and unchanging lists by what they hold, changing things by their place in the own heap -/
inductive U where
  | non | bl (b : Bool) | int (i : Int) | str (x : Str) | tup (us : List U) | fl (us : List U) | cl (us : List U) | ref (n : Nat) | glo (x : Str) | ty (n : String) | exn (x : Str)
/-- what stands in the own heap -/
inductive MO where
  | lst (us : List U)
  | dic (lock : Bool) (kvs : List (U × U))
  | ins (c : Str) (fs : List (Str × U))
abbrev MH := List MO
/-- an exception: its class by its name (own), with its fields -/
structure Ex where
  cls : Str
  fs : List (Str × U)
inductive Out (α : Type) where
  | ok (a : α) (m : MH)
  | err (x : Ex) (m : MH)
  | bad
def Out.bind {α β : Type} (o : Out α) (f : α → MH → Out β) : Out β := match o with
  | .ok a m => f a m
  | .err x m => .err x m
  | .bad => .bad
@[simp] theorem Out.bind_ok {α β : Type} (a : α) (m : MH) (f : α → MH → Out β) : (Out.ok a m).bind f = f a m := rfl
@[simp] theorem Out.bind_err {α β : Type} (x : Ex) (m : MH) (f : α → MH → Out β) : (Out.err x m : Out α).bind f = .err x m := rfl
@[simp] theorem Out.bind_bad {α β : Type} (f : α → MH → Out β) : (Out.bad : Out α).bind f = .bad := rfl
abbrev Env1 := List (Option U)
/-- what does not change through a run: the written part, the module's names, the pins of the context -/
structure Cn where
  K : PySem.W.Frag
  mg : Str → Option Value
/-- ghost: where the own heap's things stand; what is being made just now (reserved) -/
structure Gh where
  r : List Addr
  z : List Addr
def KL (K : PySem.W.Frag) (a : Addr) (xs : List V) : Prop :=
  ∃ (o : Obj) (its : Array Value) (n : Nat), K.lookup a = some o ∧ o.cls = .type "list" ∧ o.dict = none ∧ o.data = .seq its n ∧ its.size ≤ sizeLine ∧ Vals xs its.toList
def KT (K : PySem.W.Frag) (a : Addr) (xs : List V) : Prop :=
  ∃ (o : Obj) (its : Array Value) (n : Nat), K.lookup a = some o ∧ o.cls = .type "tuple" ∧ o.data = .seq its n ∧ its.size ≤ sizeLine ∧ Vals xs its.toList
def LstAt (K : PySem.W.Frag) (r : Gh) (H : Hp) (a : Addr) (xs : List V) : Prop := (a ∉ r.r ∧ a ∉ r.z ∧ Rd H a (.lst xs)) ∨ KL K a xs
def TupAt (K : PySem.W.Frag) (r : Gh) (H : Hp) (a : Addr) (xs : List V) : Prop := (a ∉ r.r ∧ a ∉ r.z ∧ Rd H a (.tup xs)) ∨ KT K a xs
theorem LstAt.sq {K : PySem.W.Frag} {r : Gh} {H : Hp} {a : Addr} {xs : List V} (h : LstAt K r H a xs) : SqL K H a xs := h.elim (fun x => .inl x.2.2) .inr
theorem TupAt.sq {K : PySem.W.Frag} {r : Gh} {H : Hp} {a : Addr} {xs : List V} (h : TupAt K r H a xs) : SqT K H a xs := h.elim (fun x => .inl x.2.2) .inr
/-- a caught exception as a thing that is known -/
def ExC (cls : Value) (d : Option Addr) (a : Addr) : HO := .ext fun h => ∃ (oe : Obj) (vs : Array Value), h.get? a = some oe ∧ Zc cls d oe ∧ oe.data = .fields vs
mutual
inductive RU (c : Cn) (r : Gh) (H : Hp) : U → V → Prop
  | non : RU c r H .non .non
  | bl (b : Bool) : RU c r H (.bl b) (.bl b)
  | int (i : Int) : RU c r H (.int i) (.int i)
  | str (x : Str) : RU c r H (.str x) (.str x)
  | tup {us : List U} {a : Addr} {xs : List V} : TupAt c.K r H a xs → RUs c r H us xs → RU c r H (.tup us) (.ref a)
  | fl {us : List U} {a : Addr} {xs : List V} : a ∉ r.r → a ∉ r.z → H a = some (.lst xs) → RUs c r H us xs → RU c r H (.fl us) (.ref a)
  | cl {us : List U} {a : Addr} {xs : List V} : LstAt c.K r H a xs → RUs c r H us xs → RU c r H (.cl us) (.ref a)
  | ref {n : Nat} {a : Addr} : r.r[n]? = some a → RU c r H (.ref n) (.ref a)
  | glo {x : Str} {a : Addr} : c.mg x = some (.ref a) → RU c r H (.glo x) (.ref a)
  | ty (n : String) : RU c r H (.ty n) (.ty n)
  | exn {x : Str} {C a : Addr} : c.mg x = some (.ref C) → a ∉ r.r → a ∉ r.z → H a = some (ExC (.ref C) none a) → RU c r H (.exn x) (.ref a)
inductive RUs (c : Cn) (r : Gh) (H : Hp) : List U → List V → Prop
  | nil : RUs c r H [] []
  | cons {u : U} {us : List U} {x : V} {xs : List V} : RU c r H u x → RUs c r H us xs → RUs c r H (u :: us) (x :: xs)
end
/-- from one moment to a later one: places stay, what is neither of the own heap nor reserved stays -/
structure ExtW (r : Gh) (H : Hp) (r' : Gh) (H' : Hp) : Prop where
  pre : r.r <+: r'.r
  keep : ∀ b o, b ∉ r.r → b ∉ r.z → H b = some o → H' b = some o ∧ b ∉ r'.r ∧ b ∉ r'.z
/-- .. and what is reserved stays, too -/
structure Ext (r : Gh) (H : Hp) (r' : Gh) (H' : Hp) : Prop where
  w : ExtW r H r' H'
  z : r'.z = r.z
  res : ∀ b, b ∈ r.z → H' b = H b
theorem ExtW.refl (r : Gh) (H : Hp) : ExtW r H r H := ⟨List.prefix_refl r.r, fun _ _ h h' e => ⟨e, h, h'⟩⟩
theorem ExtW.trans {r r1 r2 : Gh} {H H1 H2 : Hp} (a : ExtW r H r1 H1) (b : ExtW r1 H1 r2 H2) : ExtW r H r2 H2 :=
  ⟨a.pre.trans b.pre, fun x o h h' e => let ⟨e1, h1, h1'⟩ := a.keep x o h h' e; b.keep x o h1 h1' e1⟩
theorem Ext.refl (r : Gh) (H : Hp) : Ext r H r H := ⟨ExtW.refl r H, rfl, fun _ _ => rfl⟩
theorem Ext.trans {r r1 r2 : Gh} {H H1 H2 : Hp} (a : Ext r H r1 H1) (b : Ext r1 H1 r2 H2) : Ext r H r2 H2 :=
  ⟨a.w.trans b.w, b.z.trans a.z, fun x h => (b.res x (a.z ▸ h)).trans (a.res x h)⟩
theorem pre_get {α : Type} {r r' : List α} (p : r <+: r') {n : Nat} {a : α} (h : r[n]? = some a) : r'[n]? = some a := by
  obtain ⟨t, rfl⟩ := p
  rw [List.getElem?_append_left (List.getElem?_eq_some_iff.mp h).1]
  exact h
theorem LstAt.ext {K : PySem.W.Frag} {r r' : Gh} {H H' : Hp} {a : Addr} {xs : List V} (h : LstAt K r H a xs) (e : ExtW r H r' H') : LstAt K r' H' a xs := by
  rcases h with ⟨n, z, h | ⟨o, h⟩⟩ | h
  · exact .inl ⟨(e.keep _ _ n z h).2.1, (e.keep _ _ n z h).2.2, .inl (e.keep _ _ n z h).1⟩
  · exact .inl ⟨(e.keep _ _ n z h).2.1, (e.keep _ _ n z h).2.2, .inr ⟨o, (e.keep _ _ n z h).1⟩⟩
  · exact .inr h
theorem TupAt.ext {K : PySem.W.Frag} {r r' : Gh} {H H' : Hp} {a : Addr} {xs : List V} (h : TupAt K r H a xs) (e : ExtW r H r' H') : TupAt K r' H' a xs := by
  rcases h with ⟨n, z, h | ⟨o, h⟩⟩ | h
  · exact .inl ⟨(e.keep _ _ n z h).2.1, (e.keep _ _ n z h).2.2, .inl (e.keep _ _ n z h).1⟩
  · exact .inl ⟨(e.keep _ _ n z h).2.1, (e.keep _ _ n z h).2.2, .inr ⟨o, (e.keep _ _ n z h).1⟩⟩
  · exact .inr h
section
variable {c : Cn} {r r' : Gh} {H H' : Hp}
mutual
theorem RU.ext (e : ExtW r H r' H') : ∀ {u : U} {x : V}, RU c r H u x → RU c r' H' u x
  | _, _, .non => .non
  | _, _, .bl b => .bl b
  | _, _, .int i => .int i
  | _, _, .str x => .str x
  | _, _, .tup h hs => .tup (h.ext e) (RUs.ext e hs)
  | _, _, .fl h1 h2 h3 hs => let q := e.keep _ _ h1 h2 h3; .fl q.2.1 q.2.2 q.1 (RUs.ext e hs)
  | _, _, .cl h hs => .cl (h.ext e) (RUs.ext e hs)
  | _, _, .ref h => .ref (pre_get e.pre h)
  | _, _, .glo h => .glo h
  | _, _, .ty n => .ty n
  | _, _, .exn h1 h2 h3 h4 => let q := e.keep _ _ h2 h3 h4; .exn h1 q.2.1 q.2.2 q.1
theorem RUs.ext (e : ExtW r H r' H') : ∀ {us : List U} {xs : List V}, RUs c r H us xs → RUs c r' H' us xs
  | _, _, .nil => .nil
  | _, _, .cons h hs => .cons (RU.ext e h) (RUs.ext e hs)
end
theorem RUs.length : ∀ {us : List U} {xs : List V}, RUs c r H us xs → us.length = xs.length
  | _, _, .nil => rfl
  | _, _, .cons _ hs => congrArg (· + 1) (RUs.length hs)
theorem RUs.get : ∀ {us : List U} {xs : List V} {i : Nat} {u : U}, RUs c r H us xs → us[i]? = some u → ∃ x, xs[i]? = some x ∧ RU c r H u x
  | _, _, 0, _, .cons h _, e => by cases e; exact ⟨_, rfl, h⟩
  | _, _, i + 1, _, .cons _ hs, e => RUs.get (i := i) hs e
theorem RUs.app : ∀ {us : List U} {xs : List V} {us' : List U} {xs' : List V}, RUs c r H us xs → RUs c r H us' xs' → RUs c r H (us ++ us') (xs ++ xs')
  | _, _, _, _, .nil, b => b
  | _, _, _, _, .cons h hs, b => .cons h (RUs.app hs b)
theorem RUs.take : ∀ {us : List U} {xs : List V} (n : Nat), RUs c r H us xs → RUs c r H (us.take n) (xs.take n)
  | _, _, 0, _ => .nil
  | _, _, _ + 1, .nil => .nil
  | _, _, n + 1, .cons h hs => .cons h (RUs.take n hs)
theorem RUs.drop : ∀ {us : List U} {xs : List V} (n : Nat), RUs c r H us xs → RUs c r H (us.drop n) (xs.drop n)
  | _, _, 0, h => h
  | _, _, _ + 1, .nil => .nil
  | _, _, n + 1, .cons _ hs => RUs.drop n hs
theorem RUs.set : ∀ {us : List U} {xs : List V} {u : U} {x : V} (n : Nat), RUs c r H us xs → RU c r H u x → RUs c r H (us.set n u) (xs.set n x)
  | _, _, _, _, _, .nil, _ => .nil
  | _, _, _, _, 0, .cons _ hs, q => .cons q hs
  | _, _, _, _, n + 1, .cons h hs, q => .cons h (RUs.set n hs q)
theorem RUs.erase : ∀ {us : List U} {xs : List V} (n : Nat), RUs c r H us xs → RUs c r H (us.eraseIdx n) (xs.eraseIdx n)
  | _, _, _, .nil => .nil
  | _, _, 0, .cons _ hs => hs
  | _, _, n + 1, .cons h hs => .cons h (RUs.erase n hs)
theorem RUs.rev {us : List U} {xs : List V} (h : RUs c r H us xs) : RUs c r H us.reverse xs.reverse := by
  have a : ∀ {us : List U} {xs : List V}, RUs c r H us xs → RUs c r H us.reverse xs.reverse := by
    intro us
    induction us with
    | nil => intro xs h; cases h; exact .nil
    | cons u us ih => intro xs h; cases h with | cons h1 hs => rw [List.reverse_cons, List.reverse_cons]; exact (ih hs).app (.cons h1 .nil)
  exact a h
theorem RUs.rep {us : List U} {xs : List V} (h : RUs c r H us xs) : ∀ k : Nat, RUs c r H (List.replicate k us).flatten (List.replicate k xs).flatten
  | 0 => .nil
  | k + 1 => by rw [List.replicate_succ, List.replicate_succ, List.flatten_cons, List.flatten_cons]; exact h.app (RUs.rep h k)
theorem RUs.ints : ∀ (ns : List Int), RUs c r H (ns.map U.int) (ns.map V.int)
  | [] => .nil
  | n :: ns => .cons (.int n) (RUs.ints ns)
end
/-! ### the own heap -/
/-- a dict's key, flat -/
def keyU : U → Option Key
  | .int i => some (.inl i)
  | .str x => some (.inr x)
  | _ => none
inductive RKs (c : Cn) (r : Gh) (H : Hp) : List (U × U) → List (Key × V) → Prop
  | nil : RKs c r H [] []
  | cons {k u : U} {q : Key} {x : V} {kvs : List (U × U)} {ps : List (Key × V)} : keyU k = some q → RU c r H u x → RKs c r H kvs ps → RKs c r H ((k, u) :: kvs) ((q, x) :: ps)
inductive RFs (c : Cn) (r : Gh) (H : Hp) : List (Str × U) → List (Str × V) → Prop
  | nil : RFs c r H [] []
  | cons {f : Str} {u : U} {x : V} {fs : List (Str × U)} {ps : List (Str × V)} : RU c r H u x → RFs c r H fs ps → RFs c r H ((f, u) :: fs) ((f, x) :: ps)
inductive RO (c : Cn) (r : Gh) (H : Hp) : MO → HO → Prop
  | lst {us : List U} {xs : List V} : RUs c r H us xs → RO c r H (.lst us) (.lst xs)
  | dic {kvs : List (U × U)} {ps : List (Key × V)} : RKs c r H kvs ps → RO c r H (.dic false kvs) (.dK ps)
  | dicL {kvs : List (U × U)} {ps : List (Key × V)} {o : Obj} : RKs c r H kvs ps → RO c r H (.dic true kvs) (.frz o (.dK ps))
  | ins {x : Str} {C dx : Addr} {fs : List (Str × U)} {ps : List (Str × V)} : c.mg x = some (.ref C) → RFs c r H fs ps → RO c r H (.ins x fs) (.ins C dx ps)
section
variable {c : Cn} {r r' : Gh} {H H' : Hp}
theorem RKs.ext (e : ExtW r H r' H') : ∀ {kvs : List (U × U)} {ps : List (Key × V)}, RKs c r H kvs ps → RKs c r' H' kvs ps
  | _, _, .nil => .nil
  | _, _, .cons k h hs => .cons k (h.ext e) (RKs.ext e hs)
theorem RFs.ext (e : ExtW r H r' H') : ∀ {kvs : List (Str × U)} {ps : List (Str × V)}, RFs c r H kvs ps → RFs c r' H' kvs ps
  | _, _, .nil => .nil
  | _, _, .cons h hs => .cons (h.ext e) (RFs.ext e hs)
theorem RO.ext (e : ExtW r H r' H') {o : MO} {ho : HO} (h : RO c r H o ho) : RO c r' H' o ho := by
  cases h with
  | lst h => exact .lst (h.ext e)
  | dic h => exact .dic (h.ext e)
  | dicL h => exact .dicL (h.ext e)
  | ins h hs => exact .ins h (hs.ext e)
end
structure Corr (c : Cn) (r : Gh) (m : MH) (H : Hp) : Prop where
  len : r.r.length = m.length
  nd : r.r.Nodup
  at_ : ∀ (i : Nat) (o : MO), m[i]? = some o → ∃ a ho, r.r[i]? = some a ∧ H a = some ho ∧ RO c r H o ho
  res : ∀ b ∈ r.z, b ∉ r.r ∧ H b ≠ none
section
variable {c : Cn} {r r' : Gh} {m : MH} {H H' : Hp}
theorem Corr.some (C : Corr c r m H) {a : Addr} (h : a ∈ r.r) : ∃ ho, H a = some ho := by
  obtain ⟨i, hi⟩ := List.getElem?_of_mem h
  have lt : i < m.length := by rw [← C.len]; exact (List.getElem?_eq_some_iff.mp hi).1
  obtain ⟨a', ho, h1, h2, _⟩ := C.at_ i _ (List.getElem?_eq_getElem lt)
  rw [hi] at h1
  cases h1
  exact ⟨ho, h2⟩
theorem Corr.free (C : Corr c r m H) {p : Addr} (h : H p = none) : p ∉ r.r ∧ p ∉ r.z := by
  refine ⟨fun hp => ?_, fun hp => (C.res p hp).2 h⟩
  obtain ⟨ho, e⟩ := C.some hp
  rw [h] at e
  cases e
/-- the same things under a heap that keeps them -/
theorem Corr.move (C : Corr c r m H) (e : ExtW r H r' H') (hr : r'.r = r.r) (hz : ∀ b ∈ r'.z, b ∉ r'.r ∧ H' b ≠ none) (hk : ∀ b ∈ r.r, H' b = H b) : Corr c r' m H' := by
  refine ⟨by rw [hr]; exact C.len, by rw [hr]; exact C.nd, fun i x hx => ?_, hz⟩
  obtain ⟨a, ho, h1, h2, h3⟩ := C.at_ i x hx
  exact ⟨a, ho, by rw [hr]; exact h1, by rw [hk a (List.mem_of_getElem? h1)]; exact h2, h3.ext e⟩
/-- something beside the own heap is laid -/
theorem Corr.beside (C : Corr c r m H) {p : Addr} {o : HO} (h : H p = none) : Corr c r m (upd H p o) ∧ Ext r H r (upd H p o) ∧ p ∉ r.r ∧ p ∉ r.z := by
  obtain ⟨np, nz⟩ := C.free h
  have e : Ext r H r (upd H p o) := ⟨⟨List.prefix_refl r.r, fun b o' hb hz eb => ⟨by rw [upd_ne (ne_of_none eb h)]; exact eb, hb, hz⟩⟩, rfl, fun b hb => upd_ne (show b ≠ p by rintro rfl; exact nz hb)⟩
  refine ⟨C.move e.w rfl (fun b hb => ⟨(C.res b hb).1, by rw [e.res b hb]; exact (C.res b hb).2⟩) (fun b hb => upd_ne (show b ≠ p by rintro rfl; exact np hb)), e, np, nz⟩
/-- a new thing of the own heap -/
theorem Corr.new (C : Corr c r m H) {p : Addr} {ho : HO} {o : MO} (h : H p = none) (q : RO c r H o ho) : Corr c ⟨r.r ++ [p], r.z⟩ (m ++ [o]) (upd H p ho) ∧ Ext r H ⟨r.r ++ [p], r.z⟩ (upd H p ho) ∧ (r.r ++ [p])[m.length]? = Option.some p := by
  obtain ⟨np, nz⟩ := C.free h
  have e : Ext r H ⟨r.r ++ [p], r.z⟩ (upd H p ho) := ⟨⟨List.prefix_append r.r [p], fun b o' hb hz eb => ⟨by rw [upd_ne (ne_of_none eb h)]; exact eb, by
    rw [List.mem_append]; rintro (z | z)
    · exact hb z
    · exact ne_of_none eb h (List.mem_singleton.mp z), hz⟩⟩, rfl, fun b hb => upd_ne (show b ≠ p by rintro rfl; exact nz hb)⟩
  have ln : (r.r ++ [p])[m.length]? = Option.some p := by rw [← C.len, List.getElem?_append_right (Nat.le_refl _), Nat.sub_self]; rfl
  refine ⟨⟨by rw [List.length_append, List.length_append, C.len]; rfl, ?_, fun i x hx => ?_, fun b hb => ⟨?_, by rw [e.res b hb]; exact (C.res b hb).2⟩⟩, e, ln⟩
  · rw [List.nodup_append]
    exact ⟨C.nd, (List.nodup_cons.mpr ⟨List.not_mem_nil, List.nodup_nil⟩), fun a ha b hb => by rw [List.mem_singleton.mp hb]; rintro rfl; exact np ha⟩
  · by_cases hi : i < m.length
    · rw [List.getElem?_append_left hi] at hx
      obtain ⟨a, ho', h1, h2, h3⟩ := C.at_ i x hx
      exact ⟨a, ho', pre_get e.w.pre h1, by rw [upd_ne (ne_of_none h2 h)]; exact h2, h3.ext e.w⟩
    · have : i < (m ++ [o]).length := (List.getElem?_eq_some_iff.mp hx).1
      rw [List.length_append] at this
      have hi' : i = m.length := by simp at this; omega
      subst hi'
      rw [List.getElem?_append_right (Nat.le_refl _), Nat.sub_self] at hx
      cases hx
      exact ⟨p, ho, ln, upd_same, q.ext e.w⟩
  · show b ∉ r.r ++ [p]
    rw [List.mem_append]; rintro (z | z)
    · exact (C.res b hb).1 z
    · exact nz (List.mem_singleton.mp z ▸ hb)
/-- a thing of the own heap is changed -/
theorem Corr.put (C : Corr c r m H) {i : Nat} {a : Addr} {ho : HO} {o : MO} (hi : r.r[i]? = Option.some a) (q : RO c r H o ho) : Corr c r (m.set i o) (upd H a ho) ∧ Ext r H r (upd H a ho) := by
  have ma : a ∈ r.r := List.mem_of_getElem? hi
  have e : Ext r H r (upd H a ho) := ⟨⟨List.prefix_refl r.r, fun b o' hb hz eb => ⟨by rw [upd_ne (show b ≠ a by rintro rfl; exact hb ma)]; exact eb, hb, hz⟩⟩, rfl, fun b hb => upd_ne (show b ≠ a by rintro rfl; exact (C.res b hb).1 ma)⟩
  refine ⟨⟨by rw [List.length_set, C.len], C.nd, fun j x hx => ?_, fun b hb => ⟨(C.res b hb).1, by rw [e.res b hb]; exact (C.res b hb).2⟩⟩, e⟩
  by_cases hj : i = j
  · subst hj
    have lt : i < m.length := by rw [← C.len]; exact (List.getElem?_eq_some_iff.mp hi).1
    rw [List.getElem?_set_self lt] at hx
    cases hx
    exact ⟨a, ho, hi, upd_same, q.ext e.w⟩
  · rw [List.getElem?_set_ne hj] at hx
    obtain ⟨b, hb, h1, h2, h3⟩ := C.at_ j x hx
    have ne : b ≠ a := by
      rintro rfl
      exact hj ((List.getElem?_inj (List.getElem?_eq_some_iff.mp hi).1 C.nd).mp (hi.trans h1.symm))
    exact ⟨b, hb, h1, by rw [upd_ne ne]; exact h2, h3.ext e.w⟩
/-- an address is reserved, what stands there is laid -/
theorem Corr.reserve (C : Corr c r m H) {p : Addr} {o : HO} (h : H p = none) : Corr c ⟨r.r, p :: r.z⟩ m (upd H p o) ∧ ExtW r H ⟨r.r, p :: r.z⟩ (upd H p o) := by
  obtain ⟨np, nz⟩ := C.free h
  have e : ExtW r H ⟨r.r, p :: r.z⟩ (upd H p o) := ⟨List.prefix_refl r.r, fun b o' hb hz eb => ⟨by rw [upd_ne (ne_of_none eb h)]; exact eb, hb, by
    rw [List.mem_cons]; rintro (z | z)
    · exact ne_of_none eb h z
    · exact hz z⟩⟩
  refine ⟨C.move e rfl (fun b hb => ?_) (fun b hb => upd_ne (show b ≠ p by rintro rfl; exact np hb)), e⟩
  rcases List.mem_cons.mp hb with z | z
  · subst z; exact ⟨np, by rw [upd_same]; exact fun z => nomatch z⟩
  · exact ⟨(C.res b z).1, by rw [upd_ne (show b ≠ p by rintro rfl; exact nz z)]; exact (C.res b z).2⟩
/-- what stands at a reserved address is changed -/
theorem Corr.rewrite {p : Addr} {z : List Addr} {o : HO} {R : List Addr} (C : Corr c ⟨R, p :: z⟩ m H) : Corr c ⟨R, p :: z⟩ m (upd H p o) ∧ ExtW ⟨R, p :: z⟩ H ⟨R, p :: z⟩ (upd H p o) := by
  have np : p ∉ R := (C.res p List.mem_cons_self).1
  have e : ExtW ⟨R, p :: z⟩ H ⟨R, p :: z⟩ (upd H p o) := ⟨List.prefix_refl R, fun b o' hb hz eb => ⟨by rw [upd_ne (show b ≠ p by rintro rfl; exact hz List.mem_cons_self)]; exact eb, hb, hz⟩⟩
  refine ⟨C.move e rfl (fun b hb => ⟨(C.res b hb).1, ?_⟩) (fun b hb => upd_ne (show b ≠ p by rintro rfl; exact np hb)), e⟩
  by_cases q : b = p
  · subst q; rw [upd_same]; exact fun z => nomatch z
  · rw [upd_ne q]; exact (C.res b hb).2
/-- it is reserved no longer -/
theorem Corr.release {p : Addr} {z : List Addr} {R : List Addr} (C : Corr c ⟨R, p :: z⟩ m H) : Corr c ⟨R, z⟩ m H ∧ ExtW ⟨R, p :: z⟩ H ⟨R, z⟩ H ∧ p ∉ R := by
  have e : ExtW ⟨R, p :: z⟩ H ⟨R, z⟩ H := ⟨List.prefix_refl R, fun b o' hb hz eb => ⟨eb, hb, fun q => hz (List.mem_cons_of_mem _ q)⟩⟩
  exact ⟨C.move e rfl (fun b hb => C.res b (List.mem_cons_of_mem _ hb)) (fun _ _ => rfl), e, (C.res p List.mem_cons_self).1⟩
end
/-- the frame -/
structure EnvR (c : Cn) (r : Gh) (H : Hp) (t : Env1) (s : L2.St) : Prop where
  len : s.length = t.length
  get : ∀ (i : Nat) (u : U), t[i]? = some (some u) → ∃ x, s[i]? = some (some x) ∧ RU c r H u x
section
variable {c : Cn} {r r' : Gh} {m : MH} {H H' : Hp} {t : Env1} {s : L2.St}
theorem EnvR.ext (e : ExtW r H r' H') (h : EnvR c r H t s) : EnvR c r' H' t s := ⟨h.len, fun i u q => let ⟨x, a, b⟩ := h.get i u q; ⟨x, a, b.ext e⟩⟩
theorem EnvR.set (h : EnvR c r H t s) {u : U} {x : V} (q : RU c r H u x) (i : Nat) : EnvR c r H (t.set i (some u)) (s.set i (some x)) := by
  refine ⟨by rw [List.length_set, List.length_set, h.len], fun j w e => ?_⟩
  by_cases hj : i = j
  · subst hj
    have lt : i < t.length := by
      have := (List.getElem?_eq_some_iff.mp e).1
      rwa [List.length_set] at this
    rw [List.getElem?_set_self lt] at e
    cases e
    exact ⟨x, by rw [List.getElem?_set_self (by rw [h.len]; exact lt)], q⟩
  · rw [List.getElem?_set_ne hj] at e
    obtain ⟨y, a, b⟩ := h.get j w e
    exact ⟨y, by rw [List.getElem?_set_ne hj]; exact a, b⟩
theorem EnvR.unset (h : EnvR c r H t s) (i : Nat) : EnvR c r H (t.set i none) (s.set i none) := by
  refine ⟨by rw [List.length_set, List.length_set, h.len], fun j w e => ?_⟩
  by_cases hj : i = j
  · subst hj
    have lt : i < t.length := by
      have := (List.getElem?_eq_some_iff.mp e).1
      rwa [List.length_set] at this
    rw [List.getElem?_set_self lt] at e
    cases e
  · rw [List.getElem?_set_ne hj] at e
    obtain ⟨y, a, b⟩ := h.get j w e
    exact ⟨y, by rw [List.getElem?_set_ne hj]; exact a, b⟩
end
end Mi
set_option Elab.async false
set_option linter.all false
set_option maxRecDepth 100000
set_option maxHeartbeats 4000000
/-! Mi, part B: judgements by functions of the own values, and how they join. -/
namespace Mi
open PySem PySem.Spec PyProof.Rows L2
/-- an exception as the hand layer has it -/
def XR (c : Cn) (r : Gh) (H : Hp) (x : Ex) (cls : Value) (d : Option Addr) : Prop :=
  ∃ C, c.mg x.cls = some (.ref C) ∧ cls = .ref C ∧ ((x.fs = [] ∧ d = none) ∨ ∃ a ps, x.fs ≠ [] ∧ d = some a ∧ H a = some (.xd ps) ∧ a ∉ r.r ∧ a ∉ r.z ∧ RFs c r H x.fs ps)
theorem XR.ext {c : Cn} {r r' : Gh} {H H' : Hp} {x : Ex} {cls : Value} {d : Option Addr} (h : XR c r H x cls d) (e : ExtW r H r' H') : XR c r' H' x cls d := by
  obtain ⟨C, h1, h2, h3⟩ := h
  refine ⟨C, h1, h2, h3.elim .inl fun ⟨a, ps, e0, e1, e2, e3, e4, e5⟩ => .inr ⟨a, ps, e0, e1, (e.keep _ _ e3 e4 e2).1, (e.keep _ _ e3 e4 e2).2.1, (e.keep _ _ e3 e4 e2).2.2, e5.ext e⟩⟩
abbrev Rel (α β : Type) := Cn → Gh → Hp → α → β → Prop
/-- what an outcome asks of what is wanted -/
def kE {α β : Type} (c : Cn) (R : Rel α β) (W : WX) (r : Gh) (H : Hp) (s : L2.St) (Q : β → Hp → Prop) : Out α → Prop
  | .ok u m' => ∀ r' H' v, Ext r H r' H' → Corr c r' m' H' → R c r' H' u v → Q v H'
  | .err x m' => ∀ r' H' cls d, Ext r H r' H' → Corr c r' m' H' → XR c r' H' x cls d → W cls d s H'
  | .bad => False
abbrev Fn1 (α : Type) := Env1 → MH → Out α
abbrev E1 := Fn1 U
def tG {α β : Type} (c : Cn) (R : Rel α β) (W : WX) (f : Fn1 α) : L2.St → Hp → (β → Hp → Prop) → Prop :=
  fun s H Q => ∃ r m t, Corr c r m H ∧ EnvR c r H t s ∧ kE c R W r H s Q (f t m)
def Bl : Rel Bool Bool := fun _ _ _ a b => a = b
abbrev tE (c : Cn) (W : WX) (f : E1) : TE := tG c RU W f
abbrev tAr (c : Cn) (W : WX) (f : Fn1 (List U)) : TA := tG c RUs W f
abbrev tTs (c : Cn) (W : WX) (f : Fn1 Bool) : TT := tG c Bl W f
section
variable {α β γ δ : Type} {c : Cn} {R : Rel α β} {R' : Rel γ δ} {W : WX} {r r1 : Gh} {H H1 : Hp} {s : L2.St}
theorem kE.from {Q : β → Hp → Prop} {o : Out α} (h : kE c R W r H s Q o) (e : Ext r H r1 H1) : kE c R W r1 H1 s Q o := by
  cases o with
  | ok u m => exact fun r' H' v e1 C R1 => h r' H' v (e.trans e1) C R1
  | err x m => exact fun r' H' cls d e1 C R1 => h r' H' cls d (e.trans e1) C R1
  | bad => exact h
theorem kE.imp {Q Q' : β → Hp → Prop} {o : Out α} (h : kE c R W r H s Q o) (k : ∀ v H', Q v H' → Q' v H') : kE c R W r H s Q' o := by
  cases o with
  | ok u m => exact fun r' H' v e1 C R1 => k _ _ (h r' H' v e1 C R1)
  | err x m => exact h
  | bad => exact h
/-- what stands behind a first part -/
def Mid (c : Cn) (R : Rel α β) (r : Gh) (H : Hp) (K : Gh → MH → α → β → Hp → Prop) : β → Hp → Prop :=
  fun x H1 => ∃ r1 m1 u, Ext r H r1 H1 ∧ Corr c r1 m1 H1 ∧ R c r1 H1 u x ∧ K r1 m1 u x H1
theorem kE.bind {Q : δ → Hp → Prop} {o : Out α} {g : α → MH → Out γ} (h : kE c R' W r H s Q (o.bind g)) :
    kE c R W r H s (Mid c R r H fun r1 m1 u x H1 => kE c R' W r1 H1 s Q (g u m1)) o := by
  cases o with
  | ok u m => exact fun r' H' v e1 C R1 => ⟨r', m, u, e1, C, R1, kE.from h e1⟩
  | err x m => exact h
  | bad => exact h
theorem kE.ok {Q : β → Hp → Prop} {u : α} {m : MH} (h : kE c R W r H s Q (.ok u m)) (C : Corr c r m H) {v : β} (q : R c r H u v) : Q v H := h r H v (Ext.refl r H) C q
end
/-! ### values alone: an operation that makes no exception -/
def ofO {α : Type} : Option (α × MH) → Out α
  | some (a, m) => .ok a m
  | none => .bad
def kO {α β : Type} (c : Cn) (R : Rel α β) (r : Gh) (H : Hp) (Q : β → Hp → Prop) : Option (α × MH) → Prop
  | some (u, m') => ∀ r' H' v, Ext r H r' H' → Corr c r' m' H' → R c r' H' u v → Q v H'
  | none => False
section
variable {α β : Type} {c : Cn} {R : Rel α β} {W : WX} {r : Gh} {H : Hp} {s : L2.St}
theorem kE_ofO {Q : β → Hp → Prop} {o : Option (α × MH)} (h : kE c R W r H s Q (ofO o)) : kO c R r H Q o := by
  cases o with
  | none => exact h
  | some p => exact h
end
abbrev B2 := U → U → MH → Option (U × MH)
abbrev B1 := U → MH → Option (U × MH)
/-- the reading of an operation on two values -/
def rB (c : Cn) (g : B2) : R2 := fun x y H Q => ∃ r m u w, Corr c r m H ∧ RU c r H u x ∧ RU c r H w y ∧ kO c RU r H Q (g u w m)
def rB1 (c : Cn) (g : B1) : V → Hp → VK → Prop := fun x H Q => ∃ r m u, Corr c r m H ∧ RU c r H u x ∧ kO c RU r H Q (g u m)
section
variable {X : Cx}
theorem _root_.L2.PE.weak {X : Cx} {e : Expr} {t t' : TE} (h : PE X e t) (k : ∀ s H Q, t' s H Q → t s H Q) : PE X e t' := ⟨fun pins s σ H Q I q => h.run pins s σ H Q I (k σ H Q q)⟩
theorem _root_.L2.PT.weak {X : Cx} {e : Expr} {t t' : TT} (h : PT X e t) (k : ∀ s H Q, t' s H Q → t s H Q) : PT X e t' := ⟨fun pins s σ H Q I q => h.run pins s σ H Q I (k σ H Q q)⟩
theorem _root_.L2.PW.weak {X : Cx} {e : Expr} {t t' : TT} (h : PW X e t) (k : ∀ s H Q, t' s H Q → t s H Q) : PW X e t' := ⟨fun w pins s σ H Q I q => h.run w pins s σ H Q I (k σ H Q q)⟩
theorem _root_.L2.PA.weak {X : Cx} {e : List Expr} {t t' : TA} (h : PA X e t) (k : ∀ s H Q, t' s H Q → t s H Q) : PA X e t' := ⟨fun pos pins s σ H Q I q => h.run pos pins s σ H Q I (k σ H Q q)⟩
theorem _root_.L2.PS.weak {X : Cx} {e : Stmt} {t t' : TS} (h : PS X e t) (k : ∀ D s H, t' D s H → t D s H) : PS X e t' := ⟨fun pins s σ H D I q => h.run pins s σ H D I (k D σ H q)⟩
theorem _root_.L2.PSs.weak {X : Cx} {e : List Stmt} {t t' : TS} (h : PSs X e t) (k : ∀ D s H, t' D s H → t D s H) : PSs X e t' := ⟨fun pins s σ H D I q => h.run pins s σ H D I (k D σ H q)⟩
theorem _root_.L2.PE.bad {X : Cx} {e : Expr} {t : TE} (k : ∀ s H Q, ¬ t s H Q) : PE X e t := ⟨fun pins s σ H Q I q => absurd q (k σ H Q)⟩
theorem _root_.L2.PT.bad {X : Cx} {e : Expr} {t : TT} (k : ∀ s H Q, ¬ t s H Q) : PT X e t := ⟨fun pins s σ H Q I q => absurd q (k σ H Q)⟩
theorem _root_.L2.PA.bad {X : Cx} {e : List Expr} {t : TA} (k : ∀ s H Q, ¬ t s H Q) : PA X e t := ⟨fun pos pins s σ H Q I q => absurd q (k σ H Q)⟩
theorem _root_.L2.PS.bad {X : Cx} {e : Stmt} {t : TS} (k : ∀ D s H, ¬ t D s H) : PS X e t := ⟨fun pins s σ H D I q => absurd q (k D σ H)⟩
end
/-! ### combinators -/
def cBad {α : Type} : Fn1 α := fun _ _ => .bad
def cK (u : U) : E1 := fun _ m => .ok u m
def cVar (i : Nat) : E1 := fun t m => match t[i]? with
  | some (some u) => .ok u m
  | _ => .bad
def cBin (g : B2) (a b : E1) : E1 := fun t m => (a t m).bind fun u m1 => (b t m1).bind fun w m2 => ofO (g u w m2)
def cUn (g : B1) (a : E1) : E1 := fun t m => (a t m).bind fun u m1 => ofO (g u m1)
/-- a value as a test -/
def blOf : U → MH → Option (Bool × MH)
  | .bl b, m => some (b, m)
  | _, _ => none
def cIsBl (a : E1) : Fn1 Bool := fun t m => (a t m).bind fun u m1 => ofO (blOf u m1)
def cNot (a : Fn1 Bool) : Fn1 Bool := fun t m => (a t m).bind fun b m1 => .ok (!b) m1
def cAnd (a b : Fn1 Bool) : Fn1 Bool := fun t m => (a t m).bind fun x m1 => match x with
  | true => b t m1
  | false => .ok false m1
def cOr (a b : Fn1 Bool) : Fn1 Bool := fun t m => (a t m).bind fun x m1 => match x with
  | true => .ok true m1
  | false => b t m1
def cIf {α : Type} (q : Fn1 Bool) (a b : Fn1 α) : Fn1 α := fun t m => (q t m).bind fun x m1 => match x with
  | true => a t m1
  | false => b t m1
def cNil : Fn1 (List U) := fun _ m => .ok [] m
def cCons (a : E1) (b : Fn1 (List U)) : Fn1 (List U) := fun t m => (a t m).bind fun u m1 => (b t m1).bind fun us m2 => .ok (u :: us) m2
/-- a function of the arguments' values, without exceptions -/
def cFn (g : List U → MH → Option (U × MH)) (a : Fn1 (List U)) : E1 := fun t m => (a t m).bind fun us m1 => ofO (g us m1)
/-- a op1 b op2 d -/
def cChain (g g' : B2) (a b d : E1) : E1 := fun t m => (a t m).bind fun u m1 => (b t m1).bind fun w m2 => (ofO (g u w m2)).bind fun z m3 => (ofO (blOf z m3)).bind fun k m4 => match k with
  | true => (d t m4).bind fun y m5 => ofO (g' w y m5)
  | false => .ok (.bl false) m4
section
variable {X : Cx} {c : Cn} {W : WX} {a b d : Expr} {fa fb fd : E1} {pos : Pos}
theorem no_bad {α β : Type} {R : Rel α β} : ∀ s H Q, ¬ tG c R W cBad s H Q := fun _ _ _ ⟨_, _, _, _, _, h⟩ => h
theorem mi_var {i : Nat} {x : Str} (hN : X.N[i]? = some x) (hv : Vis X.env.scope x) (hd : (x == ("__debug__" : Str)) = false) (hcd : (x == ("__classdict__" : Str)) = false) : PE X (.Name x pos) (tE c W (cVar i)) := by
  refine (pe_var hN hv hd hcd).weak fun s H Q ⟨r, m, t, C, E, h⟩ => ?_
  unfold cVar at h
  cases e : t[i]? with
  | none => rw [e] at h; exact h.elim
  | some o =>
    cases o with
    | none => rw [e] at h; exact h.elim
    | some u =>
      rw [e] at h
      obtain ⟨v, ev, ru⟩ := E.get i u e
      exact ⟨v, ev, kE.ok h C ru⟩
/-- a value that is there always -/
theorem mi_const {e : Expr} {u : U} {v : V} (h : PE X e (tC v)) (hr : ∀ r H, RU c r H u v) : PE X e (tE c W (cK u)) :=
  h.weak fun s H Q ⟨r, m, t, C, E, k⟩ => kE.ok k C (hr r H)
theorem mi_bin {op : Operator} {g : B2} (ho : OpR X (binaryOp op) (rB c g)) (ha : PE X a (tE c W fa)) (hb : PE X b (tE c W fb)) : PE X (.BinOp a op b pos) (tE c W (cBin g fa fb)) := by
  refine (pe_op ho ha hb).weak fun s H Q ⟨r, m, t, C, E, k⟩ => ⟨r, m, t, C, E, (kE.bind k).imp ?_⟩
  rintro x H1 ⟨r1, m1, u, e1, C1, ru, k1⟩
  refine ⟨r1, m1, t, C1, E.ext e1.w, (kE.bind k1).imp ?_⟩
  rintro y H2 ⟨r2, m2, w, e2, C2, rw2, k2⟩
  exact ⟨r2, m2, u, w, C2, ru.ext e2.w, rw2, kE_ofO k2⟩
theorem mi_cmp {op : CmpOp} {g : B2} (ho : OpR X (compareOp op) (rB c g)) (ha : PE X a (tE c W fa)) (hb : PE X b (tE c W fb)) (hm : behindInMarks op b = false) : PE X (.Compare a [op] [b] pos) (tE c W (cBin g fa fb)) := by
  refine (pe_cmpR ho ha hb hm).weak fun s H Q ⟨r, m, t, C, E, k⟩ => ⟨r, m, t, C, E, (kE.bind k).imp ?_⟩
  rintro x H1 ⟨r1, m1, u, e1, C1, ru, k1⟩
  refine ⟨r1, m1, t, C1, E.ext e1.w, (kE.bind k1).imp ?_⟩
  rintro y H2 ⟨r2, m2, w, e2, C2, rw2, k2⟩
  exact ⟨r2, m2, u, w, C2, ru.ext e2.w, rw2, kE_ofO k2⟩
theorem mi_un {op : UnaryOp} {g : B1} (ho : UnR X (unaryOp op) (rB1 c g)) (ha : PE X a (tE c W fa)) : PE X (.UnaryOp op a pos) (tE c W (cUn g fa)) := by
  refine (pe_un ho ha).weak fun s H Q ⟨r, m, t, C, E, k⟩ => ⟨r, m, t, C, E, (kE.bind k).imp ?_⟩
  rintro x H1 ⟨r1, m1, u, e1, C1, ru, k1⟩
  exact ⟨r1, m1, u, C1, ru, kE_ofO k1⟩
/-- from a value to a test -/
theorem kbl {r : Gh} {H : Hp} {s : L2.St} {Q : Bool → Hp → Prop} {u : U} {m : MH} {v : V} (C : Corr c r m H) (ru : RU c r H u v) (k : kE c Bl W r H s Q (ofO (blOf u m))) : ∃ b, v = .bl b ∧ Q b H := by
  cases u with
  | bl b => cases ru; exact ⟨b, rfl, kE.ok k C rfl⟩
  | _ => exact k.elim
theorem mi_cmpT {op : CmpOp} {g : B2} (ho : OpR X (compareOp op) (rB c g)) (ha : PE X a (tE c W fa)) (hb : PE X b (tE c W fb)) (hm : behindInMarks op b = false) : PT X (.Compare a [op] [b] pos) (tTs c W (cIsBl (cBin g fa fb))) := by
  refine (pt_cmpR ho ha hb hm).weak fun s H Q ⟨r, m, t, C, E, k⟩ => ?_
  refine ⟨r, m, t, C, E, ?_⟩
  have k' : kE c Bl W r H s Q ((fa t m).bind fun u m1 => (fb t m1).bind fun w m2 => (ofO (g u w m2)).bind fun u m1 => ofO (blOf u m1)) := by
    unfold cIsBl cBin at k
    revert k
    cases fa t m with
    | ok u m1 => simp only [Out.bind_ok]; cases fb t m1 with
      | ok w m2 => simp only [Out.bind_ok]; exact id
      | err x m => simp only [Out.bind_err]; exact id
      | bad => simp only [Out.bind_bad]; exact id
    | err x m => simp only [Out.bind_err]; exact id
    | bad => simp only [Out.bind_bad]; exact id
  refine (kE.bind k').imp ?_
  rintro x H1 ⟨r1, m1, u, e1, C1, ru, k1⟩
  refine ⟨r1, m1, t, C1, E.ext e1.w, (kE.bind k1).imp ?_⟩
  rintro y H2 ⟨r2, m2, w, e2, C2, rw2, k2⟩
  refine ⟨r2, m2, u, w, C2, ru.ext e2.w, rw2, ?_⟩
  cases e : g u w m2 with
  | none => rw [e] at k2; exact k2
  | some p =>
    rw [e] at k2
    intro r3 H3 v e3 C3 rv
    exact kbl C3 rv (kE.from k2 e3)
theorem mi_chain {op op' : CmpOp} {g g' : B2} (ho : OpR X (compareOp op) (rB c g)) (ho' : OpR X (compareOp op') (rB c g')) (ha : PE X a (tE c W fa)) (hb : PE X b (tE c W fb)) (hd : PE X d (tE c W fd)) (hm : lastMarks [op, op'] [b, d] = false) :
    PE X (.Compare a [op, op'] [b, d] pos) (tE c W (cChain g g' fa fb fd)) := by
  refine (pe_chain ho ho' ha hb hd hm).weak fun s H Q ⟨r, m, t, C, E, k⟩ => ⟨r, m, t, C, E, (kE.bind k).imp ?_⟩
  rintro x H1 ⟨r1, m1, u, e1, C1, ru, k1⟩
  refine ⟨r1, m1, t, C1, E.ext e1.w, (kE.bind k1).imp ?_⟩
  rintro y H2 ⟨r2, m2, w, e2, C2, rw2, k2⟩
  refine ⟨r2, m2, u, w, C2, ru.ext e2.w, rw2, ?_⟩
  cases e : g u w m2 with
  | none => rw [e] at k2; exact k2
  | some p =>
    obtain ⟨z, m3⟩ := p
    rw [e] at k2
    intro r3 H3 v e3 C3 rv
    have k3 := kE.from k2 e3
    cases z with
    | bl b =>
      cases rv
      refine ⟨b, rfl, ?_⟩
      cases b with
      | true =>
        refine iteT ⟨r3, m3, t, C3, ((E.ext e1.w).ext e2.w).ext e3.w, (kE.bind (show kE c RU W r3 H3 s Q ((fd t m3).bind fun y m5 => ofO (g' w y m5)) from k3)).imp ?_⟩
        rintro x4 H4 ⟨r4, m4, u4, e4, C4, ru4, k4⟩
        exact ⟨r4, m4, w, u4, C4, (rw2.ext e3.w).ext e4.w, ru4, kE_ofO k4⟩
      | false => exact iteF (kE.ok (show kE c RU W r3 H3 s Q (.ok (.bl false) m3) from k3) C3 (.bl false))
    | _ => exact k3.elim
end
/-! ### tests -/
section
variable {X : Cx} {c : Cn} {W : WX} {a b : Expr} {qa qb : Fn1 Bool} {fa fb : E1} {rest : List Expr} {pos : Pos}
theorem mi_not (ha : PT X a (tTs c W qa)) : PT X (.UnaryOp .Not a pos) (tTs c W (cNot qa)) := by
  refine (pt_not ha).weak fun s H Q ⟨r, m, t, C, E, k⟩ => ⟨r, m, t, C, E, (kE.bind k).imp ?_⟩
  rintro x H1 ⟨r1, m1, u, e1, C1, rfl, k1⟩
  exact kE.ok k1 C1 rfl
theorem mi_and (ha : PT X a (tTs c W qa)) (hb : PW X (.BoolOp .And (b :: rest) pos) (tTs c W qb)) : PW X (.BoolOp .And (a :: b :: rest) pos) (tTs c W (cAnd qa qb)) := by
  refine (pw_and ha hb).weak fun s H Q ⟨r, m, t, C, E, k⟩ => ⟨r, m, t, C, E, (kE.bind k).imp ?_⟩
  rintro x H1 ⟨r1, m1, u, e1, C1, rfl, k1⟩
  cases u with
  | true => exact iteT ⟨r1, m1, t, C1, E.ext e1.w, k1⟩
  | false => exact iteF (kE.ok k1 C1 rfl)
theorem mi_or (ha : PT X a (tTs c W qa)) (hb : PW X (.BoolOp .Or (b :: rest) pos) (tTs c W qb)) : PW X (.BoolOp .Or (a :: b :: rest) pos) (tTs c W (cOr qa qb)) := by
  refine (pw_or ha hb).weak fun s H Q ⟨r, m, t, C, E, k⟩ => ⟨r, m, t, C, E, (kE.bind k).imp ?_⟩
  rintro x H1 ⟨r1, m1, u, e1, C1, rfl, k1⟩
  cases u with
  | true => exact iteT (kE.ok k1 C1 rfl)
  | false => exact iteF ⟨r1, m1, t, C1, E.ext e1.w, k1⟩
theorem mi_if {q : Expr} {qq : Fn1 Bool} (hq : PT X q (tTs c W qq)) (ha : PE X a (tE c W fa)) (hb : PE X b (tE c W fb)) : PE X (.IfExp q a b pos) (tE c W (cIf qq fa fb)) := by
  refine (pe_ifExp hq ha hb).weak fun s H Q ⟨r, m, t, C, E, k⟩ => ⟨r, m, t, C, E, (kE.bind k).imp ?_⟩
  rintro x H1 ⟨r1, m1, u, e1, C1, rfl, k1⟩
  cases u with
  | true => exact iteT ⟨r1, m1, t, C1, E.ext e1.w, k1⟩
  | false => exact iteF ⟨r1, m1, t, C1, E.ext e1.w, k1⟩
end
/-! ### arguments, displays -/
def noStar : Expr → Bool
  | .Starred _ _ => false
  | _ => true
theorem star_cons {e : Expr} {es : List Expr} {env : Env} (h : noStar e = true) : starEach (e :: es) env = (false, eval e env) :: starEach es env := by
  cases e <;> first | rfl | (exact nomatch (show false = true from h))
theorem star_plain {pos : Pos} {env : Env} : ∀ {es : List Expr}, es.all noStar = true → (backTo pos (starEach es env)).any (·.1) = false
  | [], _ => rfl
  | e :: es, h => by
    have h1 : noStar e = true ∧ es.all noStar = true := by
      rw [List.all_cons, Bool.and_eq_true] at h; exact h
    rw [star_cons h1.1]
    exact (Bool.false_or _).trans (star_plain (es := es) h1.2)
section
variable {X : Cx} {c : Cn} {W : WX} {e : Expr} {es : List Expr} {fe : E1} {fs : Fn1 (List U)} {pos : Pos}
theorem mi_nil : PA X [] (tAr c W cNil) := pa_nil.weak fun s H Q ⟨r, m, t, C, E, k⟩ => kE.ok k C .nil
theorem mi_cons (h : noStar e = true) (ha : PE X e (tE c W fe)) (hr : PA X es (tAr c W fs)) : PA X (e :: es) (tAr c W (cCons fe fs)) := by
  refine (pa_cons ha hr (star_cons h)).weak fun s H Q ⟨r, m, t, C, E, k⟩ => ⟨r, m, t, C, E, (kE.bind k).imp ?_⟩
  rintro x H1 ⟨r1, m1, u, e1, C1, ru, k1⟩
  refine ⟨r1, m1, t, C1, E.ext e1.w, (kE.bind k1).imp ?_⟩
  rintro y H2 ⟨r2, m2, w, e2, C2, rw2, k2⟩
  exact kE.ok k2 C2 (.cons (ru.ext e2.w) rw2)
def lineOk (n : Nat) : Bool := decide (n ≤ 16777216)
theorem lineOk_of {n : Nat} (h : lineOk n = true) : n ≤ sizeLine := of_decide_eq_true h
/-- a new tuple -/
def mkTup (us : List U) (m : MH) : Option (U × MH) := if lineOk us.length = true then some (.tup us, m) else none
/-- a new list, unchanging -/
def mkFl (us : List U) (m : MH) : Option (U × MH) := if lineOk us.length = true then some (.fl us, m) else none
/-- a new list of the own heap -/
def mkLst (us : List U) (m : MH) : Option (U × MH) := if lineOk us.length = true then some (.ref m.length, m ++ [.lst us]) else none
theorem ko_tup {r : Gh} {H : Hp} {m : MH} {Q : VK} {us : List U} {xs : List V} (C : Corr c r m H) (rs : RUs c r H us xs) (k : kO c RU r H Q (mkTup us m)) : xs.length ≤ sizeLine ∧ ∀ p, H p = none → Q (.ref p) (upd H p (.tup xs)) := by
  unfold mkTup at k
  by_cases h : lineOk us.length = true
  · rw [if_pos h] at k
    refine ⟨rs.length ▸ lineOk_of h, fun p hp => ?_⟩
    obtain ⟨C1, e1, n1, n2⟩ := C.beside (o := .tup xs) hp
    exact k _ _ _ e1 C1 (.tup (.inl ⟨n1, n2, Rd.of upd_same⟩) (rs.ext e1.w))
  · rw [if_neg h] at k; exact k.elim
theorem ko_fl {r : Gh} {H : Hp} {m : MH} {Q : VK} {us : List U} {xs : List V} (C : Corr c r m H) (rs : RUs c r H us xs) (k : kO c RU r H Q (mkFl us m)) : xs.length ≤ sizeLine ∧ ∀ p, H p = none → Q (.ref p) (upd H p (.lst xs)) := by
  unfold mkFl at k
  by_cases h : lineOk us.length = true
  · rw [if_pos h] at k
    refine ⟨rs.length ▸ lineOk_of h, fun p hp => ?_⟩
    obtain ⟨C1, e1, n1, n2⟩ := C.beside (o := .lst xs) hp
    exact k _ _ _ e1 C1 (.fl n1 n2 upd_same (rs.ext e1.w))
  · rw [if_neg h] at k; exact k.elim
theorem ko_lst {r : Gh} {H : Hp} {m : MH} {Q : VK} {us : List U} {xs : List V} (C : Corr c r m H) (rs : RUs c r H us xs) (k : kO c RU r H Q (mkLst us m)) : xs.length ≤ sizeLine ∧ ∀ p, H p = none → Q (.ref p) (upd H p (.lst xs)) := by
  unfold mkLst at k
  by_cases h : lineOk us.length = true
  · rw [if_pos h] at k
    refine ⟨rs.length ▸ lineOk_of h, fun p hp => ?_⟩
    obtain ⟨C1, e1, l1⟩ := C.new (o := .lst us) (ho := .lst xs) hp (.lst rs)
    exact k _ _ _ e1 C1 (.ref l1)
  · rw [if_neg h] at k; exact k.elim
theorem mi_tup {x1 : Nat} (h : PA X es (tAr c W fs)) : PE X (.Tuple es x1 pos) (tE c W (cFn mkTup fs)) := by
  refine (pe_tup h).weak fun s H Q ⟨r, m, t, C, E, k⟩ => ⟨r, m, t, C, E, (kE.bind k).imp ?_⟩
  rintro x H1 ⟨r1, m1, u, e1, C1, ru, k1⟩
  exact ko_tup C1 ru (kE_ofO k1)
theorem mi_fl (h : PA X es (tAr c W fs)) : PE X (.List es pos) (tE c W (cFn mkFl fs)) := by
  refine (pe_lst h).weak fun s H Q ⟨r, m, t, C, E, k⟩ => ⟨r, m, t, C, E, (kE.bind k).imp ?_⟩
  rintro x H1 ⟨r1, m1, u, e1, C1, ru, k1⟩
  exact ko_fl C1 ru (kE_ofO k1)
theorem mi_lst (h : PA X es (tAr c W fs)) : PE X (.List es pos) (tE c W (cFn mkLst fs)) := by
  refine (pe_lst h).weak fun s H Q ⟨r, m, t, C, E, k⟩ => ⟨r, m, t, C, E, (kE.bind k).imp ?_⟩
  rintro x H1 ⟨r1, m1, u, e1, C1, ru, k1⟩
  exact ko_lst C1 ru (kE_ofO k1)
end
end Mi
set_option Elab.async false
set_option linter.all false
set_option maxRecDepth 100000
set_option maxHeartbeats 4000000
/-! Mi, part C: what operations on own values give, and that the model gives just that. -/
namespace Mi
open PySem PySem.Spec PyProof.Rows L2
abbrev cn (X : Cx) : Cn := ⟨X.K, X.mg⟩
/-- the items of a list -/
def seqL : U → MH → Option (List U)
  | .fl us, _ => some us
  | .cl us, _ => some us
  | .ref n, m => (match m[n]? with
    | some (.lst us) => some us
    | _ => none)
  | _, _ => none
section
variable {c : Cn} {r : Gh} {H : Hp} {m : MH}
theorem seqL_ok (C : Corr c r m H) {u : U} {v : V} {us : List U} (ru : RU c r H u v) (e : seqL u m = some us) : ∃ a xs, v = .ref a ∧ SqL c.K H a xs ∧ RUs c r H us xs := by
  cases u with
  | fl us' => cases e; cases ru with | fl h1 h2 h3 hs => exact ⟨_, _, rfl, SqL.of h3, hs⟩
  | cl us' => cases e; cases ru with | cl h1 hs => exact ⟨_, _, rfl, h1.sq, hs⟩
  | ref n =>
    cases ru with
    | ref h =>
      simp only [seqL] at e
      cases q : m[n]? with
      | none => rw [q] at e; cases e
      | some o =>
        obtain ⟨a', ho, h1, h2, h3⟩ := C.at_ n o q
        rw [h] at h1
        cases h1
        rw [q] at e
        cases o with
        | lst us' => cases e; cases h3 with | lst hs => exact ⟨_, _, rfl, SqL.of h2, hs⟩
        | _ => cases e
  | _ => cases e
/-- a list that is neither a constant nor the script -/
def seqW : U → MH → Option (List U)
  | .fl us, _ => some us
  | .ref n, m => (match m[n]? with
    | some (.lst us) => some us
    | _ => none)
  | _, _ => none
theorem seqW_ok (C : Corr c r m H) {u : U} {v : V} {us : List U} (ru : RU c r H u v) (e : seqW u m = some us) : ∃ a xs, v = .ref a ∧ H a = some (.lst xs) ∧ RUs c r H us xs := by
  cases u with
  | fl us' => cases e; cases ru with | fl h1 h2 h3 hs => exact ⟨_, _, rfl, h3, hs⟩
  | ref n =>
    cases ru with
    | ref h =>
      simp only [seqW] at e
      cases q : m[n]? with
      | none => rw [q] at e; cases e
      | some o =>
        obtain ⟨a', ho, h1, h2, h3⟩ := C.at_ n o q
        rw [h] at h1
        cases h1
        rw [q] at e
        cases o with
        | lst us' => cases e; cases h3 with | lst hs => exact ⟨_, _, rfl, h2, hs⟩
        | _ => cases e
  | _ => cases e
theorem kO.get {Q : VK} {u : U} {v : V} (k : kO c RU r H Q (some (u, m))) (C : Corr c r m H) (ru : RU c r H u v) : Q v H := k r H v (Ext.refl r H) C ru
end
/-! ### + - * // % ** -/
def mulOk (i j : Int) : Bool := decide (i.natAbs < 2 ^ 64) || decide (j.natAbs < 2 ^ 64) || (decide (i.natAbs < 2 ^ 100000) && decide (j.natAbs < 2 ^ 100000))
def powOk (i j : Int) : Bool := decide (0 ≤ j) && decide (j ≤ 100) && decide (i.natAbs < 2 ^ 1000)
def divOk (j : Int) : Bool := decide (0 < j) && decide (j.natAbs < 2 ^ 1000)
/-- a text n times -/
def repS (z : Str) (n : Int) : Str := if n < 1 then Str.empty else if (n == 1 || z.length == 0) = true then z else ⟨(List.replicate n.toNat z.cps).foldl (· ++ ·) #[]⟩
def addU : B2
  | .int i, .int j, m => some (.int (i + j), m)
  | .str x, .str y, m => if lineOk (x.length + y.length) = true then some (.str (x ++ y), m) else none
  | .tup us, .tup ws, m => if lineOk (us.length + ws.length) = true then some (.tup (us ++ ws), m) else none
  | a, b, m => (match seqW a m, seqW b m with
    | some us, some ws => if lineOk (us.length + ws.length) = true then some (.fl (us ++ ws), m) else none
    | _, _ => none)
def subU : B2
  | .int i, .int j, m => some (.int (i - j), m)
  | _, _, _ => none
def mulU : B2
  | .int i, .int j, m => if mulOk i j = true then some (.int (i * j), m) else none
  | .str x, .int j, m => if (decide (0 ≤ j) && decide (j ≤ 100000) && decide (x.length ≤ 100)) = true then some (.str (repS x j), m) else none
  | a, .int j, m => (match seqW a m with
    | some us => if (decide (0 ≤ j) && decide (j ≤ 100000) && lineOk (us.length * j.toNat)) = true then some (.fl (List.replicate j.toNat us).flatten, m) else none
    | _ => none)
  | _, _, _ => none
def fdivU : B2
  | .int i, .int j, m => if divOk j = true then some (.int (i / j), m) else none
  | _, _, _ => none
def modU : B2
  | .int i, .int j, m => if decide (0 < j) = true then some (.int (i % j), m) else none
  | _, _, _ => none
def powU : B2
  | .int i, .int j, m => if powOk i j = true then some (.int (i ^ j.toNat), m) else none
  | _, _, _ => none
def negU : B1
  | .int i, m => some (.int (-i), m)
  | _, _ => none
def b3 {a b d : Bool} (h : (a && b && d) = true) : a = true ∧ b = true ∧ d = true := by
  rw [Bool.and_eq_true, Bool.and_eq_true] at h
  exact ⟨h.1.1, h.1.2, h.2⟩
theorem kO.ite {α β : Type} {c : Cn} {R : Rel α β} {r : Gh} {H : Hp} {Q : β → Hp → Prop} {b : Bool} {p : α × MH} (k : kO c R r H Q (if b = true then some p else none)) : b = true ∧ kO c R r H Q (some p) := by
  cases b with
  | true => exact ⟨rfl, k⟩
  | false => exact (k : False).elim
section
variable {X : Cx}
theorem op_addU : OpR X (binaryOp .Add) (rB (cn X) addU) := by
  intro pins s σ H x y v u Q I rx ry h
  obtain ⟨r, m, a, b, C, ra, rb, k⟩ := h
  have lists : ∀ us ws, seqW a m = some us → seqW b m = some ws → kO (cn X) RU r H Q (if lineOk (us.length + ws.length) = true then some (.fl (us ++ ws), m) else none) → wpAny (model X.prog X.w) X.A (binaryOp .Add v u) (EP X pins σ Q) X.xe s := by
    intro us ws ea eb k
    obtain ⟨l, xs, rfl, hl, rs⟩ := seqW_ok C ra ea
    obtain ⟨l2, ys, rfl, hl2, rs2⟩ := seqW_ok C rb eb
    obtain ⟨hb, k⟩ := k.ite
    have ll : us.length + ws.length ≤ sizeLine := lineOk_of hb
    refine op_cat pins s σ H _ _ v u Q I rx ry ⟨l, l2, xs, ys, rfl, rfl, hl, hl2, by rw [← rs.length, ← rs2.length]; exact ll, fun p hp => ?_⟩
    obtain ⟨C1, e1, n1, n2⟩ := C.beside (o := .lst (xs ++ ys)) hp
    exact k _ _ _ e1 C1 (.fl n1 n2 upd_same ((rs.app rs2).ext e1.w))
  unfold addU at k
  split at k
  · cases ra; cases rb
    exact op_add pins s σ H _ _ v u Q I rx ry ⟨_, _, rfl, rfl, k.get C (.int _)⟩
  · cases ra; cases rb
    obtain ⟨hb, k⟩ := k.ite
    exact op_add_str pins s σ H _ _ v u Q I rx ry ⟨_, _, rfl, rfl, lineOk_of hb, k.get C (.str _)⟩
  · cases ra with
    | tup ha hs => cases rb with
      | tup hb hs2 =>
        obtain ⟨hl, k⟩ := k.ite
        have ll := lineOk_of hl
        refine op_catA pins s σ H _ _ v u Q I rx ry ⟨_, _, _, _, rfl, rfl, ha.sq, hb.sq, by rw [← hs.length, ← hs2.length]; exact ll, ?_, ?_, ?_⟩
        · rintro rfl
          cases hs
          exact k.get C (.tup hb hs2)
        · rintro _ rfl
          cases hs2
          rw [List.append_nil] at k
          exact k.get C (.tup ha hs)
        · intro _ _ p hp
          obtain ⟨C1, e1, n1, n2⟩ := C.beside (o := .tup _) hp
          exact k _ _ _ e1 C1 (.tup (.inl ⟨n1, n2, Rd.of upd_same⟩) ((hs.app hs2).ext e1.w))
  · cases ea : seqW a m with
    | none => rw [ea] at k; exact k.elim
    | some us => cases eb : seqW b m with
      | none => rw [ea, eb] at k; exact k.elim
      | some ws => rw [ea, eb] at k; exact lists us ws ea eb k
theorem op_subU : OpR X (binaryOp .Sub) (rB (cn X) subU) := by
  intro pins s σ H x y v u Q I rx ry h
  obtain ⟨r, m, a, b, C, ra, rb, k⟩ := h
  unfold subU at k
  split at k
  · cases ra; cases rb
    exact op_sub pins s σ H _ _ v u Q I rx ry ⟨_, _, rfl, rfl, k.get C (.int _)⟩
  · exact k.elim
theorem op_modU : OpR X (binaryOp .Mod) (rB (cn X) modU) := by
  intro pins s σ H x y v u Q I rx ry h
  obtain ⟨r, m, a, b, C, ra, rb, k⟩ := h
  unfold modU at k
  split at k
  · cases ra; cases rb
    obtain ⟨hb, k⟩ := k.ite
    exact op_mod pins s σ H _ _ v u Q I rx ry ⟨_, _, rfl, rfl, of_decide_eq_true hb, k.get C (.int _)⟩
  · exact k.elim
theorem log_lt {i n : Nat} (h : i < 2 ^ n) (h0 : 0 < n) : i.log2 < n := by
  by_cases z : i = 0
  · subst z; rw [Nat.log2_zero]; exact h0
  · exact (Nat.log2_lt z).mpr h
theorem op_fdivU : OpR X (binaryOp .FloorDiv) (rB (cn X) fdivU) := by
  intro pins s σ H x y v u Q I rx ry h
  obtain ⟨r, m, a, b, C, ra, rb, k⟩ := h
  unfold fdivU at k
  split at k
  · cases ra; cases rb
    obtain ⟨hb, k⟩ := k.ite
    unfold divOk at hb
    rw [Bool.and_eq_true] at hb
    exact op_fdivW pins s σ H _ _ v u Q I rx ry ⟨_, _, rfl, rfl, ⟨of_decide_eq_true hb.1, Nat.lt_trans (log_lt (of_decide_eq_true hb.2) (by decide)) (by decide)⟩, k.get C (.int _)⟩
  · exact k.elim
theorem bits_lt {i : Int} {n : Nat} (h : i.natAbs < 2 ^ n) : Builtin.Int.intBits i ≤ n := by
  unfold Builtin.Int.intBits
  by_cases z : i = 0
  · subst z; exact Nat.zero_le _
  · rw [if_neg (by simpa using z)]
    exact Nat.succ_le_of_lt ((Nat.log2_lt (by omega)).mpr h)
theorem op_powU : OpR X (binaryOp .Pow) (rB (cn X) powU) := by
  intro pins s σ H x y v u Q I rx ry h
  obtain ⟨r, m, a, b, C, ra, rb, k⟩ := h
  unfold powU at k
  split at k
  · cases ra; cases rb
    obtain ⟨hb, k⟩ := k.ite
    unfold powOk at hb
    obtain ⟨h1, h2, h3⟩ := b3 hb
    have g1 := of_decide_eq_true h1
    have g2 := of_decide_eq_true h2
    have g3 := bits_lt (of_decide_eq_true h3)
    have R : OpR X (binaryOp .Pow) (rI (fun i j => 0 ≤ j ∧ (Builtin.Int.intBits i : Int) * j ≤ 2 ^ 27) fun i j => .int (i ^ j.toNat)) := opI fun _ _ _ _ _ _ _ hc q => pow_int hc.1 hc.2 q
    refine R pins s σ H _ _ v u Q I rx ry ⟨_, _, rfl, rfl, ⟨g1, ?_⟩, k.get C (.int _)⟩
    have e1 : ((Builtin.Int.intBits _ : Nat) : Int) ≤ 1000 := Int.ofNat_le.mpr g3
    exact Int.le_trans (Int.mul_le_mul e1 g2 g1 (by decide)) (by decide)
  · exact k.elim
theorem rep_size (a : Array Nat) : ∀ (n : Nat) (acc : Array Nat), (List.foldl (fun x1 x2 => x1 ++ x2) acc (List.replicate n a)).size = acc.size + n * a.size
  | 0, acc => by simp
  | n + 1, acc => by
    rw [List.replicate_succ, List.foldl_cons, rep_size a n, Array.size_append, Nat.succ_mul]
    omega
theorem op_repS : OpR X (binaryOp .Mult) (fun x y H Q => ∃ z j, x = .str z ∧ y = .int j ∧ (0 ≤ j ∧ j ≤ 100000 ∧ z.length ≤ 100) ∧ Q (.str (repS z j)) H) := by
  intro pins s σ H x y v u Q I rx ry h
  obtain ⟨z, j, rfl, rfl, ⟨h1, h2, h3⟩, q⟩ := h
  obtain ⟨t, rfl⟩ := rx
  obtain ⟨t', rfl⟩ := ry
  refine PySem.P.mul_str ?_ (fun g1 g2 => ?_) (fun g1 g2 => ?_) ?_
  · rw [Bool.or_eq_false_iff]
    exact ⟨decide_eq_false (by omega), decide_eq_false (by omega)⟩
  · have : (100 : Int) ≤ (2 ^ 63 - 1) / j := by
      rw [Int.le_ediv_iff_mul_le (by omega)]
      omega
    omega
  · refine PyProof.Rows.short24 ?_
    have a1 : j.toNat ≤ 100000 := by omega
    have := Nat.mul_le_mul h3 a1
    omega
  · unfold repS at q
    by_cases c1 : j < 1
    · rw [if_pos c1] at q ⊢
      exact ⟨by decide, ⟨.str Str.empty, H, I.tok _, ⟨_, rfl⟩, q⟩⟩
    · rw [if_neg c1] at q ⊢
      by_cases c2 : (j == 1 || z.length == 0) = true
      · rw [if_pos c2] at q ⊢
        exact ⟨.str z, H, I.tok _, ⟨_, rfl⟩, q⟩
      · rw [if_neg c2] at q ⊢
        refine ⟨?_, ⟨.str _, H, I.tok _, ⟨_, rfl⟩, q⟩⟩
        show (List.foldl (fun x1 x2 => x1 ++ x2) #[] (List.replicate j.toNat z.cps)).size ≤ sizeLine
        rw [rep_size]
        have a1 : j.toNat ≤ 100000 := by omega
        have a2 : z.cps.size ≤ 100 := h3
        have := Nat.mul_le_mul a1 a2
        have e : sizeLine = 16777216 := rfl
        simp only [List.size_toArray, List.length_nil]
        omega
theorem op_mulU : OpR X (binaryOp .Mult) (rB (cn X) mulU) := by
  intro pins s σ H x y v u Q I rx ry h
  obtain ⟨r, m, a, b, C, ra, rb, k⟩ := h
  unfold mulU at k
  split at k
  · cases ra; cases rb
    obtain ⟨hb, k⟩ := k.ite
    unfold mulOk at hb
    rw [Bool.or_eq_true, Bool.or_eq_true, Bool.and_eq_true] at hb
    rcases hb with (hb | hb) | hb
    · have := of_decide_eq_true hb
      exact op_mul pins s σ H _ _ v u Q I rx ry ⟨_, _, rfl, rfl, .inl (by omega), k.get C (.int _)⟩
    · have := of_decide_eq_true hb
      exact op_mul pins s σ H _ _ v u Q I rx ry ⟨_, _, rfl, rfl, .inr (by omega), k.get C (.int _)⟩
    · refine op_mulW pins s σ H _ _ v u Q I rx ry ⟨_, _, rfl, rfl, ?_, k.get C (.int _)⟩
      have h1 := log_lt (of_decide_eq_true hb.1) (by decide)
      have h2 := log_lt (of_decide_eq_true hb.2) (by decide)
      show _ < 1000000
      omega
  · cases ra; cases rb
    obtain ⟨hb, k⟩ := k.ite
    obtain ⟨h1, h2, h3⟩ := b3 hb
    exact op_repS pins s σ H _ _ v u Q I rx ry ⟨_, _, rfl, rfl, ⟨of_decide_eq_true h1, of_decide_eq_true h2, of_decide_eq_true h3⟩, k.get C (.str _)⟩
  · rename_i j _ _
    cases rb
    cases ea : seqW a m with
    | none => rw [ea] at k; exact k.elim
    | some us =>
      rw [ea] at k
      obtain ⟨l, xs, rfl, hl, rs⟩ := seqW_ok C ra ea
      obtain ⟨hb, k⟩ := k.ite
      obtain ⟨h1, h2, h3⟩ := b3 hb
      have g1 := of_decide_eq_true h1
      have g2 := of_decide_eq_true h2
      refine op_rep pins s σ H _ _ v u Q I rx ry ⟨l, _, xs, rfl, rfl, hl, by omega, by omega, by rw [← rs.length]; exact lineOk_of h3, fun p hp => ?_⟩
      obtain ⟨C1, e1, n1, n2⟩ := C.beside (o := .lst (List.replicate j.toNat xs).flatten) hp
      exact k _ _ _ e1 C1 (.fl n1 n2 upd_same ((rs.rep _).ext e1.w))
  · exact k.elim
theorem un_negU : UnR X (unaryOp .USub) (rB1 (cn X) negU) := by
  intro pins s σ H x v Q I rx h
  obtain ⟨r, m, a, C, ra, k⟩ := h
  unfold negU at k
  split at k
  · cases ra
    exact un_neg pins s σ H _ v Q I rx ⟨_, rfl, k.get C (.int _)⟩
  · exact k.elim
end
end Mi
set_option Elab.async false
set_option linter.all false
set_option maxRecDepth 100000
set_option maxHeartbeats 4000000
/-! Mi, part D: equality, order, in, is, length, places, truth, kinds. -/
namespace Mi
open PySem PySem.Spec PyProof.Rows L2
mutual
/-- as data (a thing of the own heap has none) -/
def toD : U → PyData
  | .non => .none
  | .bl b => .bool b
  | .int i => .int i
  | .str x => .str x
  | .tup us => .tuple (toDs us)
  | .fl us => .list (toDs us)
  | .cl us => .list (toDs us)
  | _ => .dict []
def toDs : List U → List PyData
  | [] => []
  | u :: us => toD u :: toDs us
end
mutual
def layU : U → Bool
  | .non => true
  | .bl _ => true
  | .int _ => true
  | .str x => PyData.strOk x
  | .tup us => layUs us
  | .fl us => layUs us
  | .cl us => layUs us
  | _ => false
def layUs : List U → Bool
  | [] => true
  | u :: us => layU u && layUs us
end
mutual
def depU : U → Nat
  | .tup us => depUs us + 1
  | .fl us => depUs us + 1
  | .cl us => depUs us + 1
  | _ => 0
def depUs : List U → Nat
  | [] => 0
  | u :: us => max (depU u) (depUs us)
end
def okD (u : U) : Bool := layU u && decide (depU u ≤ 50)
mutual
theorem lay_toD : ∀ u : U, layU u = true → PyData.canLay0 (toD u) = true
  | .non, _ => rfl
  | .bl _, _ => rfl
  | .int _, _ => rfl
  | .str _, h => h
  | .tup us, h => lay_toDs us h
  | .fl us, h => lay_toDs us h
  | .cl us, h => lay_toDs us h
  | .ref _, h => nomatch (show false = true from h)
  | .glo _, h => nomatch (show false = true from h)
  | .ty _, h => nomatch (show false = true from h)
theorem lay_toDs : ∀ us : List U, layUs us = true → PyData.canLayAll0 (toDs us) = true
  | [], _ => rfl
  | u :: us, h => by
    have h' : (layU u && layUs us) = true := h
    rw [Bool.and_eq_true] at h'
    show (PyData.canLay0 (toD u) && PyData.canLayAll0 (toDs us)) = true
    rw [lay_toD u h'.1, lay_toDs us h'.2]
    rfl
end
mutual
theorem dep_toD : ∀ u : U, layU u = true → (toD u).depth ≤ depU u
  | .non, _ => Nat.le_refl _
  | .bl _, _ => Nat.le_refl _
  | .int _, _ => Nat.le_refl _
  | .str _, h => Nat.le_refl _
  | .tup us, h => Nat.succ_le_succ (dep_toDs us h)
  | .fl us, h => Nat.succ_le_succ (dep_toDs us h)
  | .cl us, h => Nat.succ_le_succ (dep_toDs us h)
  | .ref _, h => nomatch (show false = true from h)
  | .glo _, h => nomatch (show false = true from h)
  | .ty _, h => nomatch (show false = true from h)
theorem dep_toDs : ∀ us : List U, layUs us = true → PyData.depthAll (toDs us) ≤ depUs us
  | [], _ => Nat.le_refl _
  | u :: us, h => by
    have h' : (layU u && layUs us) = true := h
    rw [Bool.and_eq_true] at h'
    have h1 := dep_toD u h'.1
    have h2 := dep_toDs us h'.2
    show max (toD u).depth (PyData.depthAll (toDs us)) ≤ max (depU u) (depUs us)
    omega
end
theorem shaped_of {u : U} (h : okD u = true) : SeqAt.shaped (toD u) = true := by
  unfold okD at h
  rw [Bool.and_eq_true] at h
  unfold SeqAt.shaped
  rw [lay_toD u h.1, Bool.true_and]
  have := of_decide_eq_true h.2
  have := dep_toD u h.1
  exact decide_eq_true (by omega)
section
variable {c : Cn} {r : Gh} {H : Hp} {m : MH}
mutual
theorem RU.dp : ∀ {u : U} {v : V}, layU u = true → RU c r H u v → Dp c.K H v (toD u)
  | _, _, _, .non => .non
  | _, _, _, .bl b => .bl b
  | _, _, _, .int i => .int i
  | _, _, _, .str x => .str x
  | .tup us, _, l, .tup h hs => .tup h.sq (RUs.dp (us := us) l hs)
  | .fl us, _, l, .fl h1 h2 h3 hs => .lst (SqL.of h3) (RUs.dp (us := us) l hs)
  | .cl us, _, l, .cl h hs => .lst h.sq (RUs.dp (us := us) l hs)
  | .ref _, _, l, _ => nomatch (show false = true from l)
  | .glo _, _, l, _ => nomatch (show false = true from l)
  | .ty _, _, l, _ => nomatch (show false = true from l)
theorem RUs.dp : ∀ {us : List U} {vs : List V}, layUs us = true → RUs c r H us vs → DpAll c.K H vs (toDs us)
  | _, _, _, .nil => .nil
  | u :: us, _, l, .cons h hs => by
    have h' : (layU u && layUs us) = true := l
    rw [Bool.and_eq_true] at h'
    exact .cons (RU.dp h'.1 h) (RUs.dp h'.2 hs)
end
/-- a list of the own heap as an unchanging one -/
def deref : U → MH → U
  | .ref n, m => (match m[n]? with
    | some (.lst us) => .fl us
    | _ => .ref n)
  | u, _ => u
theorem deref_dp (C : Corr c r m H) {u : U} {v : V} (l : layU (deref u m) = true) (ru : RU c r H u v) : Dp c.K H v (toD (deref u m)) := by
  cases u with
  | ref n =>
    cases ru with
    | ref h =>
      cases q : m[n]? with
      | none => simp only [deref, q] at l; exact nomatch (show false = true from l)
      | some o =>
        cases o with
        | lst us =>
          simp only [deref, q] at l ⊢
          obtain ⟨a', ho, h1, h2, h3⟩ := C.at_ n _ q
          rw [h] at h1
          cases h1
          cases h3 with | lst hs => exact .lst (SqL.of h2) (RUs.dp (us := us) l hs)
        | _ => simp only [deref, q] at l; exact nomatch (show false = true from l)
  | _ => exact RU.dp l ru
end
/-- flat values that == tells apart at once -/
def scU : U → U → Option Bool
  | .non, .non => some true
  | .non, .int _ => some false
  | .int _, .non => some false
  | .non, .bl _ => some false
  | .bl _, .non => some false
  | .non, .str _ => some false
  | .str _, .non => some false
  | .int i, .int j => some (decide (i = j))
  | .bl i, .bl j => some (decide (i = j))
  | .str i, .str j => some (decide (i = j))
  | .int _, .str _ => some false
  | .str _, .int _ => some false
  | .bl _, .str _ => some false
  | .str _, .bl _ => some false
  | _, _ => none
def eqB (u w : U) (m : MH) : Option Bool := match scU u w with
  | some b => some b
  | none => if (okD (deref u m) && okD (deref w m)) = true then some (PyData.eqv (toD (deref u m)) (toD (deref w m))) else none
def eqU : B2 := fun u w m => (eqB u w m).map fun b => (.bl b, m)
def neU : B2 := fun u w m => (eqB u w m).map fun b => (.bl (!b), m)
def cmpI (p : Int → Int → Bool) : B2
  | .int i, .int j, m => some (.bl (p i j), m)
  | _, _, _ => none
def isNon : U → Bool
  | .non => true
  | _ => false
/-- is None -/
def isU : B2 := fun u w m => if isNon w = true then some (.bl (isNon u), m) else none
def nisU : B2 := fun u w m => if isNon w = true then some (.bl (!isNon u), m) else none
section
variable {X : Cx}
theorem sc_ok {c : Cn} {r : Gh} {H : Hp} {u w : U} {x y : V} {b : Bool} (ru : RU c r H u x) (rw' : RU c r H w y) (e : scU u w = some b) : scal x y = true ∧ decide (x = y) = b := by
  cases ru <;> cases rw' <;> first
    | (cases e; exact ⟨rfl, by simp⟩)
    | (exact nomatch (show none = some b from e))
theorem op_eqU (hu : X.A.units + 64 < cLine) : OpR X (compareOp .Eq) (rB (cn X) eqU) := by
  intro pins s σ H x y v u Q I rx ry h
  obtain ⟨r, m, a, b, C, ra, rb, k⟩ := h
  unfold eqU eqB at k
  cases e : scU a b with
  | some b' =>
    rw [e] at k
    obtain ⟨h1, h2⟩ := sc_ok ra rb e
    exact op_eq pins s σ H _ _ v u Q I rx ry ⟨h1, by rw [h2]; exact k.get C (.bl _)⟩
  | none =>
    rw [e] at k
    by_cases g : (okD (deref a m) && okD (deref b m)) = true
    · rw [if_pos g] at k
      rw [Bool.and_eq_true] at g
      have l1 : layU (deref a m) = true := (Bool.and_eq_true _ _ ▸ g.1 : _ ∧ _).1
      have l2 : layU (deref b m) = true := (Bool.and_eq_true _ _ ▸ g.2 : _ ∧ _).1
      exact op_eqD hu pins s σ H _ _ v u Q I rx ry ⟨_, _, deref_dp C l1 ra, deref_dp C l2 rb, shaped_of g.1, shaped_of g.2, k.get C (.bl _)⟩
    · rw [if_neg g] at k
      exact k.elim
theorem op_neU (hu : X.A.units + 64 < cLine) : OpR X (compareOp .NotEq) (rB (cn X) neU) := by
  intro pins s σ H x y v u Q I rx ry h
  obtain ⟨r, m, a, b, C, ra, rb, k⟩ := h
  unfold neU eqB at k
  cases e : scU a b with
  | some b' =>
    rw [e] at k
    obtain ⟨h1, h2⟩ := sc_ok ra rb e
    exact op_ne pins s σ H _ _ v u Q I rx ry ⟨h1, by rw [h2]; exact k.get C (.bl _)⟩
  | none =>
    rw [e] at k
    by_cases g : (okD (deref a m) && okD (deref b m)) = true
    · rw [if_pos g] at k
      rw [Bool.and_eq_true] at g
      have l1 : layU (deref a m) = true := (Bool.and_eq_true _ _ ▸ g.1 : _ ∧ _).1
      have l2 : layU (deref b m) = true := (Bool.and_eq_true _ _ ▸ g.2 : _ ∧ _).1
      exact op_neD hu pins s σ H _ _ v u Q I rx ry ⟨_, _, deref_dp C l1 ra, deref_dp C l2 rb, shaped_of g.1, shaped_of g.2, k.get C (.bl _)⟩
    · rw [if_neg g] at k
      exact k.elim
theorem op_cmpI {op : CmpOp} {p : Int → Int → Bool} (h0 : OpR X (compareOp op) (rI0 fun i j => .bl (p i j))) : OpR X (compareOp op) (rB (cn X) (cmpI p)) := by
  intro pins s σ H x y v u Q I rx ry h
  obtain ⟨r, m, a, b, C, ra, rb, k⟩ := h
  unfold cmpI at k
  split at k
  · cases ra; cases rb
    exact h0 pins s σ H _ _ v u Q I rx ry ⟨_, _, rfl, rfl, k.get C (.bl _)⟩
  · exact k.elim
theorem isN_ok {c : Cn} {r : Gh} {H : Hp} {u : U} {x : V} (ru : RU c r H u x) : decide (x = .non) = isNon u := by
  cases ru <;> simp [isNon]
theorem op_isU : OpR X (compareOp .Is) (rB (cn X) isU) := by
  intro pins s σ H x y v u Q I rx ry h
  obtain ⟨r, m, a, b, C, ra, rb, k⟩ := h
  unfold isU at k
  obtain ⟨hb, k⟩ := k.ite
  cases b with
  | non => cases rb; exact op_isN pins s σ H _ _ v u Q I rx ry ⟨rfl, by rw [isN_ok ra]; exact k.get C (.bl _)⟩
  | _ => exact nomatch (show false = true from hb)
theorem op_nisU : OpR X (compareOp .IsNot) (rB (cn X) nisU) := by
  intro pins s σ H x y v u Q I rx ry h
  obtain ⟨r, m, a, b, C, ra, rb, k⟩ := h
  unfold nisU at k
  obtain ⟨hb, k⟩ := k.ite
  cases b with
  | non => cases rb; exact op_notN pins s σ H _ _ v u Q I rx ry ⟨rfl, by rw [isN_ok ra]; exact k.get C (.bl _)⟩
  | _ => exact nomatch (show false = true from hb)
end
end Mi
set_option Elab.async false
set_option linter.all false
set_option maxRecDepth 100000
set_option maxHeartbeats 4000000
/-! Mi, part E: calls of built-ins. -/
namespace Mi
open PySem PySem.Spec PyProof.Rows L2
abbrev FU := List U → MH → Option (U × MH)
def rF (c : Cn) (g : FU) : List V → Hp → VK → Prop := fun vs H Q => ∃ r m us, Corr c r m H ∧ RUs c r H us vs ∧ kO c RU r H Q (g us m)
section
variable {c : Cn} {r : Gh} {H : Hp}
theorem RUs.one {u : U} {vs : List V} (h : RUs c r H [u] vs) : ∃ v, vs = [v] ∧ RU c r H u v := by
  cases h with | cons h hs => cases hs; exact ⟨_, rfl, h⟩
theorem RUs.two {u w : U} {vs : List V} (h : RUs c r H [u, w] vs) : ∃ v y, vs = [v, y] ∧ RU c r H u v ∧ RU c r H w y := by
  cases h with | cons h hs => cases hs with | cons h2 hs => cases hs; exact ⟨_, _, rfl, h, h2⟩
end
/-- the type of a thing that is no instance -/
def tyU : U → MH → Option String
  | .non, _ => some "NoneType"
  | .bl _, _ => some "bool"
  | .int _, _ => some "int"
  | .str _, _ => some "str"
  | .tup _, _ => some "tuple"
  | .fl _, _ => some "list"
  | .cl _, _ => some "list"
  | .ref n, m => (match m[n]? with
    | some (.lst _) => some "list"
    | some (.dic _ _) => some "dict"
    | _ => none)
  | _, _ => none
def tys : List String := ["NoneType", "bool", "int", "str", "tuple", "list", "dict"]
def isT (a b : String) : Bool := decide (a = b) || (decide (a = "bool") && decide (b = "int"))
theorem kitB_tab : ∀ a ∈ tys, ∀ b ∈ tys, kitB a b = some (isT a b) := by decide +kernel
theorem tyU_ok {c : Cn} {r : Gh} {H : Hp} {m : MH} (C : Corr c r m H) {u : U} {v : V} {n : String} (ru : RU c r H u v) (e : tyU u m = some n) : TyX c.K H v (.type n) ∧ n ∈ tys := by
  cases u with
  | non => cases e; cases ru; exact ⟨.base .non, by decide⟩
  | bl b => cases e; cases ru; exact ⟨.base (.bl b), by decide⟩
  | int b => cases e; cases ru; exact ⟨.base (.int b), by decide⟩
  | str b => cases e; cases ru; exact ⟨.base (.str b), by decide⟩
  | tup us =>
    cases e
    cases ru with
    | tup h hs => rcases h with ⟨_, _, h | ⟨o, h⟩⟩ | ⟨o, its, k, h1, h2, _⟩
                  · exact ⟨.base (.tup h), by decide⟩
                  · exact ⟨.fTuple h, by decide⟩
                  · exact ⟨.kTuple h1 h2, by decide⟩
  | fl us => cases e; cases ru with | fl h1 h2 h3 hs => exact ⟨.base (.lst h3), by decide⟩
  | cl us =>
    cases e
    cases ru with
    | cl h hs => rcases h with ⟨_, _, h | ⟨o, h⟩⟩ | ⟨o, its, k, h1, h2, _⟩
                 · exact ⟨.base (.lst h), by decide⟩
                 · exact ⟨.base (.frz h), by decide⟩
                 · exact ⟨.kList h1 h2, by decide⟩
  | ref k =>
    cases ru with
    | ref h =>
      cases q : m[k]? with
      | none => simp only [tyU, q] at e; cases e
      | some o =>
        obtain ⟨a', ho, h1, h2, h3⟩ := C.at_ k _ q
        rw [h] at h1
        cases h1
        cases o with
        | lst us => simp only [tyU, q] at e; cases e; cases h3 with | lst hs => exact ⟨.base (.lst h2), by decide⟩
        | dic l us =>
          simp only [tyU, q] at e
          cases e
          cases h3 with
          | dic hs => exact ⟨.base (.dK h2), by decide⟩
          | dicL hs => exact ⟨.fDict h2, by decide⟩
        | ins x fs => simp only [tyU, q] at e; cases e
  | _ => cases e
def biIsi : FU
  | [u, .ty n], m => (match tyU u m with
    | some a => if tys.contains n = true then some (.bl (isT a n), m) else none
    | none => none)
  | _, _ => none
/-- the length -/
def lenU : U → MH → Option Nat
  | .str x, _ => if lineOk x.length = true then some x.length else none
  | .tup us, _ => some us.length
  | .fl us, _ => some us.length
  | .cl us, _ => some us.length
  | .ref n, m => (match m[n]? with
    | some (.lst us) => some us.length
    | some (.dic false kvs) => some kvs.length
    | _ => none)
  | _, _ => none
def biLen : FU
  | [u], m => (lenU u m).map fun (n : Nat) => (U.int (n : Int), m)
  | _, _ => none
theorem RKs.length {c : Cn} {r : Gh} {H : Hp} : ∀ {kvs : List (U × U)} {ps : List (Key × V)}, RKs c r H kvs ps → kvs.length = ps.length
  | _, _, .nil => rfl
  | _, _, .cons _ _ h => congrArg (· + 1) (RKs.length h)
def blsOf : List U → Option (List Bool)
  | [] => some []
  | .bl b :: us => (blsOf us).map (b :: ·)
  | _ => none
def intsOf : List U → Option (List Int)
  | [] => some []
  | .int b :: us => (intsOf us).map (b :: ·)
  | _ => none
def strsOf : List U → Option (List Str)
  | [] => some []
  | .str b :: us => (strsOf us).map (b :: ·)
  | _ => none
section
variable {c : Cn} {r : Gh} {H : Hp}
theorem blsOf_ok : ∀ {us : List U} {vs : List V} {bs : List Bool}, RUs c r H us vs → blsOf us = some bs → vs = bs.map V.bl
  | [], _, _, .nil, e => by cases e; rfl
  | .bl b :: us, _, _, .cons (.bl _) hs, e => by
    simp only [blsOf, Option.map_eq_some_iff] at e
    obtain ⟨bs, e1, rfl⟩ := e
    rw [blsOf_ok hs e1]; rfl
theorem intsOf_ok : ∀ {us : List U} {vs : List V} {bs : List Int}, RUs c r H us vs → intsOf us = some bs → vs = bs.map V.int
  | [], _, _, .nil, e => by cases e; rfl
  | .int b :: us, _, _, .cons (.int _) hs, e => by
    simp only [intsOf, Option.map_eq_some_iff] at e
    obtain ⟨bs, e1, rfl⟩ := e
    rw [intsOf_ok hs e1]; rfl
theorem strsOf_ok : ∀ {us : List U} {vs : List V} {bs : List Str}, RUs c r H us vs → strsOf us = some bs → vs = bs.map V.str
  | [], _, _, .nil, e => by cases e; rfl
  | .str b :: us, _, _, .cons (.str _) hs, e => by
    simp only [strsOf, Option.map_eq_some_iff] at e
    obtain ⟨bs, e1, rfl⟩ := e
    rw [strsOf_ok hs e1]; rfl
end
def biAll : FU
  | [u], m => ((seqL u m).bind blsOf).map fun bs => (.bl (bs.all id), m)
  | _, _ => none
def biAny : FU
  | [u], m => ((seqL u m).bind blsOf).map fun bs => (.bl (bs.any id), m)
  | _, _ => none
def biSum : FU
  | [u], m => ((seqL u m).bind intsOf).map fun bs => (.int bs.sum, m)
  | _, _ => none
def biMin : FU
  | [.int i, .int j], m => some (.int (if j < i then j else i), m)
  | _, _ => none
def biMax : FU
  | [.int i, .int j], m => some (.int (if j > i then j else i), m)
  | _, _ => none
def biAbs : FU
  | [.int i], m => some (.int (if i < 0 then -i else i), m)
  | _, _ => none
def biStr : FU
  | [.int i], m => if decide (i.natAbs < 2 ^ 1900) = true then some (.str (toString i), m) else none
  | [.str x], m => some (.str x, m)
  | _, _ => none
/-- list(x): an unchanging one -/
def biList : FU
  | [.tup us], m => mkFl us m
  | [u], m => (seqL u m).bind fun us => mkFl us m
  | _, _ => none
def biTuple : FU
  | [.tup us], m => some (.tup us, m)
  | [u], m => (seqL u m).bind fun us => mkTup us m
  | _, _ => none
theorem map_some {α : Type} {o : Option α} {c : Cn} {R : Rel U V} {r : Gh} {H : Hp} {Q : VK} {m : MH} {g : α → U} (k : kO c R r H Q (o.map fun a => (g a, m))) : ∃ a, o = some a ∧ kO c R r H Q (some (g a, m)) := by
  cases o with
  | none => exact k.elim
  | some a => exact ⟨a, rfl, k⟩
section
variable {X : Cx}
theorem bi_isi : CallR X (.builtin "isinstance") (rF (cn X) biIsi) := by
  intro pins s σ H xs us Q I r h
  obtain ⟨g, m, ws, C, R, k⟩ := h
  unfold biIsi at k
  split at k
  · obtain ⟨v, y, rfl, r1, r2⟩ := R.two
    cases r2
    split at k
    · rename_i a e
      obtain ⟨hb, k⟩ := k.ite
      obtain ⟨t1, t2⟩ := tyU_ok C r1 e
      exact call_isi pins s σ H _ us Q I r ⟨v, _, _, _, _, rfl, .ty _, t1, kit_ty (kitB_tab _ t2 _ (List.contains_iff_mem.mp hb)), k.get C (.bl _)⟩
    · exact k.elim
  · exact k.elim
theorem bi_len : CallR X (.builtin "len") (rF (cn X) biLen) := by
  intro pins s σ H xs us Q I r h
  obtain ⟨g, m, ws, C, R, k⟩ := h
  match ws, R, k with
  | [], _, k => exact k.elim
  | _ :: _ :: _, _, k => exact k.elim
  | [u], R, k =>
    obtain ⟨v, rfl, r1⟩ := R.one
    simp only [biLen] at k
    cases e : lenU u m with
    | none => rw [e] at k; exact k.elim
    | some n =>
      rw [e] at k
      have k := k.get C (.int _)
      cases u with
      | str x =>
        cases r1
        simp only [lenU] at e
        by_cases hl : lineOk x.length = true
        · rw [if_pos hl] at e
          cases e
          exact call_len pins s σ H _ us Q I r ⟨_, _, rfl, ⟨lineOk_of hl, rfl⟩, k⟩
        · rw [if_neg hl] at e
          cases e
      | tup ws => cases e; cases r1 with | tup h hs => exact call_len pins s σ H _ us Q I r ⟨_, _, rfl, .inr ⟨_, h.sq, rfl⟩, hs.length ▸ k⟩
      | fl ws => cases e; cases r1 with | fl h1 h2 h hs => exact call_len pins s σ H _ us Q I r ⟨_, _, rfl, .inl ⟨_, SqL.of h, rfl⟩, hs.length ▸ k⟩
      | cl ws => cases e; cases r1 with | cl h hs => exact call_len pins s σ H _ us Q I r ⟨_, _, rfl, .inl ⟨_, h.sq, rfl⟩, hs.length ▸ k⟩
      | ref i =>
        cases r1 with
        | ref h =>
          cases q : m[i]? with
          | none => simp only [lenU, q] at e; cases e
          | some o =>
            obtain ⟨a', ho, h1, h2, h3⟩ := C.at_ i _ q
            rw [h] at h1
            cases h1
            cases o with
            | lst us' => simp only [lenU, q] at e; cases e; cases h3 with | lst hs => exact call_len pins s σ H _ us Q I r ⟨_, _, rfl, .inl ⟨_, SqL.of h2, rfl⟩, hs.length ▸ k⟩
            | dic l kvs =>
              cases l with
              | false =>
                simp only [lenU, q] at e
                cases e
                cases h3 with
                | dic hs => exact call_lenD pins s σ H _ us Q I r ⟨_, _, rfl, h2, hs.length ▸ k⟩
              | true => simp only [lenU, q] at e; cases e
            | ins x fs => simp only [lenU, q] at e; cases e
      | _ => cases e
theorem bi_all (hc : X.calm = true) : CallR X (.builtin "all") (rF (cn X) biAll) := by
  intro pins s σ H xs us Q I r h
  obtain ⟨g, m, ws, C, R, k⟩ := h
  match ws, R, k with
  | [], _, k => exact k.elim
  | _ :: _ :: _, _, k => exact k.elim
  | [u], R, k =>
    obtain ⟨v, rfl, r1⟩ := R.one
    simp only [biAll] at k
    cases e : seqL u m with
    | none => rw [e] at k; exact k.elim
    | some ws =>
      rw [e] at k
      cases e2 : blsOf ws with
      | none => simp only [Option.bind_some, e2] at k; exact k.elim
      | some bs =>
        simp only [Option.bind_some, e2] at k
        obtain ⟨a, ys, rfl, h1, h2⟩ := seqL_ok C r1 e
        have := blsOf_ok h2 e2
        subst this
        exact cr_all hc pins s σ H _ us Q I r ⟨a, bs, rfl, h1, k.get C (.bl _)⟩
theorem bi_any (hc : X.calm = true) : CallR X (.builtin "any") (rF (cn X) biAny) := by
  intro pins s σ H xs us Q I r h
  obtain ⟨g, m, ws, C, R, k⟩ := h
  match ws, R, k with
  | [], _, k => exact k.elim
  | _ :: _ :: _, _, k => exact k.elim
  | [u], R, k =>
    obtain ⟨v, rfl, r1⟩ := R.one
    simp only [biAny] at k
    cases e : seqL u m with
    | none => rw [e] at k; exact k.elim
    | some ws =>
      rw [e] at k
      cases e2 : blsOf ws with
      | none => simp only [Option.bind_some, e2] at k; exact k.elim
      | some bs =>
        simp only [Option.bind_some, e2] at k
        obtain ⟨a, ys, rfl, h1, h2⟩ := seqL_ok C r1 e
        have := blsOf_ok h2 e2
        subst this
        exact cr_any hc pins s σ H _ us Q I r ⟨a, bs, rfl, h1, k.get C (.bl _)⟩
theorem bi_sum (hc : X.calm = true) : CallR X (.builtin "sum") (rF (cn X) biSum) := by
  intro pins s σ H xs us Q I r h
  obtain ⟨g, m, ws, C, R, k⟩ := h
  match ws, R, k with
  | [], _, k => exact k.elim
  | _ :: _ :: _, _, k => exact k.elim
  | [u], R, k =>
    obtain ⟨v, rfl, r1⟩ := R.one
    simp only [biSum] at k
    cases e : seqL u m with
    | none => rw [e] at k; exact k.elim
    | some ws =>
      rw [e] at k
      cases e2 : intsOf ws with
      | none => simp only [Option.bind_some, e2] at k; exact k.elim
      | some bs =>
        simp only [Option.bind_some, e2] at k
        obtain ⟨a, ys, rfl, h1, h2⟩ := seqL_ok C r1 e
        have := intsOf_ok h2 e2
        subst this
        exact cr_sum hc pins s σ H _ us Q I r ⟨a, bs, rfl, h1, k.get C (.int _)⟩
theorem bi_min (hc : X.calm = true) : CallR X (.builtin "min") (rF (cn X) biMin) := by
  intro pins s σ H xs us Q I r h
  obtain ⟨g, m, ws, C, R, k⟩ := h
  unfold biMin at k
  split at k
  · obtain ⟨v, y, rfl, r1, r2⟩ := R.two
    cases r1; cases r2
    exact call_min2 hc pins s σ H _ us Q I r ⟨_, _, rfl, k.get C (.int _)⟩
  · exact k.elim
theorem bi_max (hc : X.calm = true) : CallR X (.builtin "max") (rF (cn X) biMax) := by
  intro pins s σ H xs us Q I r h
  obtain ⟨g, m, ws, C, R, k⟩ := h
  unfold biMax at k
  split at k
  · obtain ⟨v, y, rfl, r1, r2⟩ := R.two
    cases r1; cases r2
    exact call_max2 hc pins s σ H _ us Q I r ⟨_, _, rfl, k.get C (.int _)⟩
  · exact k.elim
theorem bi_abs : CallR X (.builtin "abs") (rF (cn X) biAbs) := by
  intro pins s σ H xs us Q I r h
  obtain ⟨g, m, ws, C, R, k⟩ := h
  unfold biAbs at k
  split at k
  · obtain ⟨v, rfl, r1⟩ := R.one
    cases r1
    exact call_abs pins s σ H _ us Q I r ⟨_, rfl, k.get C (.int _)⟩
  · exact k.elim
theorem bi_str : CallR X (.type "str") (rF (cn X) biStr) := by
  intro pins s σ H xs us Q I r h
  obtain ⟨g, m, ws, C, R, k⟩ := h
  unfold biStr at k
  split at k
  · obtain ⟨v, rfl, r1⟩ := R.one
    cases r1
    obtain ⟨hb, k⟩ := k.ite
    exact call_str_int pins s σ H _ us Q I r ⟨_, rfl, Nat.lt_of_lt_of_le (log_lt (of_decide_eq_true hb) (by decide)) (by decide), k.get C (.str _)⟩
  · obtain ⟨v, rfl, r1⟩ := R.one
    cases r1
    exact SkE.call_str_str pins s σ H _ us Q I r ⟨_, rfl, k.get C (.str _)⟩
  · exact k.elim
theorem bi_list : CallR X (.type "list") (rF (cn X) biList) := by
  intro pins s σ H xs us Q I r h
  obtain ⟨g, m, ws, C, R, k⟩ := h
  unfold biList at k
  split at k
  · obtain ⟨v, rfl, r1⟩ := R.one
    cases r1 with
    | tup h hs => exact call_list_of pins s σ H _ us Q I r ⟨_, _, rfl, .inr h.sq, (ko_fl C hs k).2⟩
  · rename_i _ u _
    obtain ⟨v, rfl, r1⟩ := R.one
    cases e : seqL u m with
    | none => rw [e] at k; exact k.elim
    | some ws =>
      rw [e] at k
      obtain ⟨a, ys, rfl, h1, h2⟩ := seqL_ok C r1 e
      exact call_list_of pins s σ H _ us Q I r ⟨_, _, rfl, .inl h1, (ko_fl C h2 k).2⟩
  · exact k.elim
theorem bi_tuple : CallR X (.type "tuple") (rF (cn X) biTuple) := by
  intro pins s σ H xs us Q I r h
  obtain ⟨g, m, ws, C, R, k⟩ := h
  unfold biTuple at k
  split at k
  · obtain ⟨v, rfl, r1⟩ := R.one
    cases r1 with
    | tup h hs => exact call_tuple_of pins s σ H _ us Q I r ⟨_, _, rfl, .inr ⟨h.sq, k.get C (.tup h hs)⟩⟩
  · rename_i _ u _
    obtain ⟨v, rfl, r1⟩ := R.one
    cases e : seqL u m with
    | none => rw [e] at k; exact k.elim
    | some ws =>
      rw [e] at k
      obtain ⟨a, ys, rfl, h1, h2⟩ := seqL_ok C r1 e
      exact call_tuple_of pins s σ H _ us Q I r ⟨_, _, rfl, .inl ⟨h1, (ko_tup C h2 k).2⟩⟩
  · exact k.elim
end
end Mi
set_option Elab.async false
set_option linter.all false
set_option maxRecDepth 100000
set_option maxHeartbeats 4000000
/-! Mi, part F: places, slices, in, truth. -/
namespace Mi
open PySem PySem.Spec PyProof.Rows L2
/-! ### dicts with flat keys -/
def lookK (q : Key) : List (U × U) → Option U
  | [] => none
  | (k, u) :: r => if keyU k = some q then some u else lookK q r
/-- the own heap's dict at a place -/
def dicAt (n : Nat) (m : MH) : Option (List (U × U)) := match m[n]? with
  | some (.dic _ kvs) => some kvs
  | _ => none
section
variable {c : Cn} {r : Gh} {H : Hp} {m : MH}
theorem RKs.look {q : Key} : ∀ {kvs : List (U × U)} {ps : List (Key × V)}, RKs c r H kvs ps → (∀ u, lookK q kvs = some u → ∃ v, valV ps q = some v ∧ RU c r H u v) ∧ (lookK q kvs = none → valV ps q = none)
  | _, _, .nil => ⟨fun _ e => (nomatch e), fun _ => rfl⟩
  | _, _, .cons (k := k) (u := u) (q := q') (x := x) hk hu hs => by
    have ih := RKs.look (q := q) hs
    unfold lookK
    by_cases e : q' = q
    · subst e
      rw [if_pos hk]
      exact ⟨fun u' e' => by cases e'; exact ⟨x, valV_pos rfl, hu⟩, fun e' => nomatch e'⟩
    · have : ¬ keyU k = some q := fun z => e (Option.some.inj (hk.symm.trans z))
      rw [if_neg this, valV_neg e]
      exact ih
theorem kV_of {u : U} {v : V} {q : Key} (ru : RU c r H u v) (h : keyU u = some q) : v = kV q := by
  cases ru <;> first
    | (cases h; rfl)
    | (exact nomatch h)
theorem dic_ok (C : Corr c r m H) {n : Nat} {v : V} {kvs : List (U × U)} (ru : RU c r H (.ref n) v) (e : dicAt n m = some kvs) : ∃ a ps, v = .ref a ∧ Rd H a (.dK ps) ∧ RKs c r H kvs ps := by
  cases ru with
  | ref h =>
    cases q : m[n]? with
    | none => simp only [dicAt, q] at e; cases e
    | some o =>
      obtain ⟨a', ho, h1, h2, h3⟩ := C.at_ n _ q
      rw [h] at h1
      cases h1
      cases o with
      | dic l ks =>
        simp only [dicAt, q] at e
        cases e
        cases h3 with
        | dic hs => exact ⟨_, _, rfl, .inl h2, hs⟩
        | dicL hs => exact ⟨_, _, rfl, .inr ⟨_, h2⟩, hs⟩
      | _ => simp only [dicAt, q] at e; cases e
end
/-! ### places -/
def idxU : B2
  | .tup us, .int i, m => (atI us i).map fun u => (u, m)
  | .str z, .int i, m => if lineOk z.length = true then (atI z.cps.toList i).map fun (k : Nat) => (U.str ⟨#[k]⟩, m) else none
  | .ref n, w, m => (match seqL (.ref n) m, w with
    | some us, .int i => (atI us i).map fun u => (u, m)
    | some _, _ => none
    | none, w => ((dicAt n m).bind fun kvs => (keyU w).bind fun q => lookK q kvs).map fun u => (u, m))
  | .fl us, .int i, m => (atI us i).map fun u => (u, m)
  | .cl us, .int i, m => (atI us i).map fun u => (u, m)
  | _, _, _ => none
theorem RUs.atI {c : Cn} {r : Gh} {H : Hp} {us : List U} {xs : List V} {i : Int} {u : U} (h : RUs c r H us xs) (e : L2.atI us i = some u) : ∃ x, L2.atI xs i = some x ∧ RU c r H u x := by
  unfold L2.atI at e ⊢
  rw [← h.length]
  cases q : ixN us.length i with
  | none => rw [q] at e; cases e
  | some j =>
    rw [q] at e
    obtain ⟨x, e1, e2⟩ := h.get (i := j) e
    exact ⟨x, e1, e2⟩
section
variable {X : Cx}
theorem ix_lst {c : Cn} {g : Gh} {m : MH} {us : List U} {a : Addr} {xs : List V} {i : Int} {H : Hp} {Q : VK} (C : Corr (cn X) g m H) (hq : SqL X.K H a xs) (hs : RUs (cn X) g H us xs) (k : kO (cn X) RU g H Q ((atI us i).map fun u => (u, m))) : rIxL X.K (.ref a) (.int i) H Q := by
  obtain ⟨u, e, k⟩ := map_some (g := id) k
  obtain ⟨x, e1, e2⟩ := hs.atI e
  exact ⟨_, _, _, _, rfl, rfl, hq, e1, k.get C e2⟩
theorem ix_U (hu : X.A.units + 1 < cLine) : IxR X (rB (cn X) idxU) := by
  intro value slice pins s σ H x y v u Q I rx ry h hs
  obtain ⟨g, m, a, b, C, ra, rb, k⟩ := h
  unfold idxU at k
  split at k
  · cases ra with
    | tup h hs' =>
      cases rb
      obtain ⟨z, e, k⟩ := map_some (g := id) k
      obtain ⟨x, e1, e2⟩ := hs'.atI e
      exact ix_tup value slice pins s σ H _ _ v u Q I rx ry ⟨_, _, _, _, rfl, rfl, h.sq, e1, k.get C e2⟩ hs
  · cases ra
    cases rb
    obtain ⟨hl, k⟩ := (show kO (cn X) RU g H Q (if lineOk _ = true then _ else none) from k) |> fun k => (show lineOk _ = true ∧ kO (cn X) RU g H Q ((atI _ _).map _) by
      revert k
      split
      · intro k; exact ⟨by assumption, k⟩
      · intro k; exact k.elim)
    obtain ⟨z, e, k⟩ := map_some (g := fun (k : Nat) => U.str ⟨#[k]⟩) k
    exact ix_str value slice pins s σ H _ _ v u Q I rx ry ⟨_, _, _, rfl, rfl, lineOk_of hl, e, k.get C (.str _)⟩ hs
  · rename_i n
    split at k
    · rename_i us i e
      cases rb
      obtain ⟨l, xs, rfl, h1, h2⟩ := seqL_ok C ra e
      exact ix_list value slice pins s σ H _ _ v u Q I rx ry (ix_lst (c := cn X) C h1 h2 k) hs
    · exact k.elim
    · rename_i b _ _ _
      obtain ⟨z, e, k⟩ := map_some (g := id) k
      cases e1 : dicAt n m with
      | none => rw [e1] at e; cases e
      | some kvs =>
        rw [e1, Option.bind_some] at e
        cases e2 : keyU b with
        | none => rw [e2] at e; cases e
        | some q =>
          rw [e2, Option.bind_some] at e
          obtain ⟨l, ps, rfl, h1, h2⟩ := dic_ok C ra e1
          have hb := kV_of rb e2
          subst hb
          obtain ⟨w, e3, e4⟩ := (RKs.look (q := q) h2).1 _ e
          have hv : v = Value.ref l := rx
          subst hv
          have G : DGet H l (kV q) (some w) := .inl ⟨ps, q, h1, rfl, e3.symm⟩
          exact tail_any (dict_typeIs I G) PySem.F.slot_dict_getitem.lookup (d_getItem hu I G ry fun w' s' I' r' => ⟨w, H, I', r', k.get C e4⟩) hs
  · cases ra with
    | fl h1 h2 h3 hs' =>
      cases rb
      exact ix_list value slice pins s σ H _ _ v u Q I rx ry (ix_lst (c := cn X) C (SqL.of h3) hs' k) hs
  · cases ra with
    | cl h hs' =>
      cases rb
      exact ix_list value slice pins s σ H _ _ v u Q I rx ry (ix_lst (c := cn X) C h.sq hs' k) hs
  · exact k.elim
end
/-- a slice's items -/
def cutU (us : List U) (lo hi : Option Int) : List U := (us.drop (HT.sIx us.length 0 lo)).take (HT.sIx us.length us.length hi - HT.sIx us.length 0 lo)
theorem RUs.cut {c : Cn} {r : Gh} {H : Hp} {us : List U} {xs : List V} (h : RUs c r H us xs) (lo hi : Option Int) : RUs c r H (cutU us lo hi) (cutV xs lo hi) := by
  unfold cutU cutV
  rw [← h.length]
  exact (h.drop _).take _
def slcU (u : U) (lo hi : Option Int) (m : MH) : Option (U × MH) := match u with
  | .tup us => some (.tup (cutU us lo hi), m)
  | .str z => if lineOk z.length = true then some (.str (cutS z lo hi), m) else none
  | u => (seqL u m).map fun us => (.fl (cutU us lo hi), m)
theorem cut_whole {α : Type} {us : List α} {lo hi : Option Int} (h : HT.sIx us.length 0 lo = 0 ∧ HT.sIx us.length us.length hi = us.length) : (us.drop (HT.sIx us.length 0 lo)).take (HT.sIx us.length us.length hi - HT.sIx us.length 0 lo) = us := by
  rw [h.1, h.2, List.drop_zero, Nat.sub_zero, List.take_length]
section
variable {X : Cx}
theorem sl_U : SlR X (fun x lo hi H Q => ∃ r m u, Corr (cn X) r m H ∧ RU (cn X) r H u x ∧ kO (cn X) RU r H Q (slcU u lo hi m)) := by
  intro pins s σ H x v vl vu lo hi sl Q I rx hs pl pu h
  obtain ⟨g, m, a, C, ra, k⟩ := h
  unfold slcU at k
  split at k
  · cases ra with
    | tup h hs' =>
      refine sl_tupA pins s σ H _ v vl vu lo hi sl Q I rx hs pl pu ⟨_, _, rfl, h.sq, fun w => ?_, fun _ p hp => ?_⟩
      · have e : cutU _ lo hi = _ := cut_whole (by rw [hs'.length]; exact w)
        rw [e] at k
        exact k.get C (.tup h hs')
      · obtain ⟨C1, e1, n1, n2⟩ := C.beside (o := .tup _) hp
        exact k _ _ _ e1 C1 (.tup (.inl ⟨n1, n2, Rd.of upd_same⟩) ((hs'.cut lo hi).ext e1.w))
  · cases ra
    obtain ⟨hl, k⟩ := k.ite
    exact sl_str pins s σ H _ v vl vu lo hi sl Q I rx hs pl pu ⟨_, rfl, lineOk_of hl, k.get C (.str _)⟩
  · obtain ⟨us, e, k⟩ := map_some (α := List U) (g := fun us => U.fl (cutU us lo hi)) k
    obtain ⟨l, xs, rfl, h1, h2⟩ := seqL_ok C ra e
    refine sl_list pins s σ H _ v vl vu lo hi sl Q I rx hs pl pu ⟨_, _, rfl, h1, fun p hp => ?_⟩
    obtain ⟨C1, e1, n1, n2⟩ := C.beside (o := .lst _) hp
    exact k _ _ _ e1 C1 (.fl n1 n2 upd_same ((h2.cut lo hi).ext e1.w))
end
/-- a slice's part -/
def cPart (e : Option E1) : Fn1 (Option Int) := match e with
  | none => fun _ m => .ok none m
  | some f => fun t m => (f t m).bind fun u m1 => match u with
    | .int i => .ok (some i) m1
    | _ => .bad
def cSlice (a : E1) (lo hi : Option E1) : E1 := fun t m => (a t m).bind fun u m1 => (cPart lo t m1).bind fun l m2 => (cPart hi t m2).bind fun h m3 => ofO (slcU u l h m3)
def PRel : Rel (Option Int) (Option Int) := fun _ _ _ a b => a = b
section
variable {X : Cx} {W : WX} {e : Expr} {lo hi : Option Expr} {fe : E1} {fl fh : Option E1} {pos p2 : Pos}
def POk (X : Cx) (W : WX) (e : Option Expr) (f : Option E1) : Prop := PO X e (tG (cn X) PRel W (cPart f))
theorem po_none' : POk X W none none := ⟨fun pins s σ H Q I ⟨r, m, t, C, E, k⟩ => po_none.run pins s σ H Q I (kE.ok k C rfl)⟩
theorem po_some' (h : PE X e (tE (cn X) W fe)) : POk X W (some e) (some fe) := by
  refine ⟨fun pins s σ H Q I ⟨r, m, t, C, E, k⟩ => (po_some h).run pins s σ H Q I ⟨r, m, t, C, E, (kE.bind k).imp ?_⟩⟩
  rintro x H1 ⟨r1, m1, u, e1, C1, ru, k1⟩
  cases ru with
  | int i => exact ⟨i, rfl, kE.ok (R := PRel) k1 C1 rfl⟩
  | _ => exact k1.elim
theorem mi_slice (he : PE X e (tE (cn X) W fe)) (hl : POk X W lo fl) (hh : POk X W hi fh) : PE X (.Subscript e (.Slice lo hi none p2) pos) (tE (cn X) W (cSlice fe fl fh)) := by
  refine (pe_slice sl_U he hl hh).weak fun s H Q ⟨r, m, t, C, E, k⟩ => ⟨r, m, t, C, E, (kE.bind k).imp ?_⟩
  rintro x H1 ⟨r1, m1, u, e1, C1, ru, k1⟩
  refine ⟨r1, m1, t, C1, E.ext e1.w, (kE.bind k1).imp ?_⟩
  rintro y H2 ⟨r2, m2, w, e2, C2, rfl, k2⟩
  refine ⟨r2, m2, t, C2, (E.ext e1.w).ext e2.w, (kE.bind k2).imp ?_⟩
  rintro y H3 ⟨r3, m3, w3, e3, C3, rfl, k3⟩
  exact ⟨r3, m3, u, C3, (ru.ext e2.w).ext e3.w, kE_ofO k3⟩
def noSlice : Expr → Bool
  | .Slice _ _ _ _ => false
  | _ => true
theorem plainIx {b : Expr} (h : noSlice b = true) : PlainIx b := by
  intro o i
  cases b <;> first | rfl | (exact nomatch (show false = true from h))
theorem mi_idx {b : Expr} {fb : E1} (hu : X.A.units + 1 < cLine) (hb0 : noSlice b = true) (ha : PE X e (tE (cn X) W fe)) (hb : PE X b (tE (cn X) W fb)) : PE X (.Subscript e b pos) (tE (cn X) W (cBin idxU fe fb)) := by
  refine (pe_ix (ix_U hu) ha hb (plainIx hb0)).weak fun s H Q ⟨r, m, t, C, E, k⟩ => ⟨r, m, t, C, E, (kE.bind k).imp ?_⟩
  rintro x H1 ⟨r1, m1, u, e1, C1, ru, k1⟩
  refine ⟨r1, m1, t, C1, E.ext e1.w, (kE.bind k1).imp ?_⟩
  rintro y H2 ⟨r2, m2, w, e2, C2, rw2, k2⟩
  exact ⟨r2, m2, u, w, C2, ru.ext e2.w, rw2, kE_ofO k2⟩
end
/-! ### in -/
def strIn (x z : Str) : Bool := if x.cps.size = 1 then decide (x.cps.getD 0 0 ∈ z.cps.toList) else !(Builtin.Str.occurrences z x 0 z.length 1).isEmpty
theorem strIn_eq (x z : Str) : strIn x z = !(Builtin.Str.occurrences z x 0 z.length 1).isEmpty := by
  unfold strIn
  split
  · rename_i h
    obtain ⟨⟨l⟩⟩ := x
    match l, h with
    | [k], _ => exact (PySem.StrLaws.found_one z k).symm
  · rfl
def flatU : U → Bool
  | .non => true
  | .bl _ => true
  | .int _ => true
  | .str _ => true
  | _ => false
def inB (x y : U) (m : MH) : Option Bool := match y with
  | .str z => (match x with
    | .str x => some (strIn x z)
    | _ => none)
  | .tup us => if (flatU x && us.all flatU) = true then some (us.any fun z => PyData.eqv (toD z) (toD x)) else none
  | y => (match seqL y m with
    | some us => if (okD x && okD (.fl us)) = true then some (us.any fun z => PyData.eqv (toD z) (toD x)) else none
    | none => (match y with
      | .ref n => (dicAt n m).bind fun kvs => (keyU x).map fun q => (lookK q kvs).isSome
      | _ => none))
def inU : B2 := fun x y m => (inB x y m).map fun b => (.bl b, m)
def ninU : B2 := fun x y m => (inB x y m).map fun b => (.bl (!b), m)
section
variable {c : Cn} {r : Gh} {H : Hp} {m : MH}
theorem flat_ok {u : U} {v : V} (ru : RU c r H u v) (h : flatU u = true) : flatV v = true := by
  cases ru <;> first | rfl | (exact nomatch (show false = true from h))
theorem flats_ok : ∀ {us : List U} {vs : List V}, RUs c r H us vs → us.all flatU = true → vs.all flatV = true
  | _, _, .nil, _ => rfl
  | _, _, .cons h hs, e => by
    rw [List.all_cons, Bool.and_eq_true] at e ⊢
    exact ⟨flat_ok h e.1, flats_ok hs e.2⟩
theorem eqV_ok {u w : U} {v y : V} (ru : RU c r H u v) (rw' : RU c r H w y) (h : flatU u = true) (h' : flatU w = true) : eqV v y = PyData.eqv (toD u) (toD w) := by
  cases ru <;> first
    | (exact nomatch (show false = true from h))
    | (cases rw' <;> first
        | rfl
        | (exact nomatch (show false = true from h')))
theorem inV_ok {u : U} {v : V} (ru : RU c r H u v) (h : flatU u = true) : ∀ {us : List U} {vs : List V}, RUs c r H us vs → us.all flatU = true → inV v vs = us.any fun z => PyData.eqv (toD z) (toD u)
  | _, _, .nil, _ => rfl
  | _, _, .cons (us := us) (xs := xs) q hs, e => by
    rw [List.all_cons, Bool.and_eq_true] at e
    unfold inV
    rw [List.any_cons, List.any_cons, eqV_ok q ru e.1 h]
    have ih := inV_ok ru h hs e.2
    unfold inV at ih
    rw [ih]
end
theorem any_toDs (p : PyData → Bool) : ∀ us : List U, (toDs us).any p = us.any fun z => p (toD z)
  | [] => rfl
  | u :: us => by
    show (toD u :: toDs us).any p = _
    rw [List.any_cons, List.any_cons, any_toDs p us]
section
variable {X : Cx}
theorem op_in_any (neg : Bool) {op : CmpOp} (hop : op = if neg = true then .NotIn else .In) (hu : X.A.units + 65 < cLine) : OpR X (compareOp op) (rB (cn X) (fun x y m => (inB x y m).map fun b => (.bl (if neg = true then !b else b), m))) := by
  intro pins s σ H x y v u Q I rx ry h
  obtain ⟨g, m, a, b, C, ra, rb, k⟩ := h
  obtain ⟨ans, e, k⟩ := map_some (g := fun b => U.bl (if neg = true then !b else b)) k
  have kq : Q (.bl (if neg = true then !ans else ans)) H := k.get C (.bl _)
  clear k
  have lists : ∀ us, seqL b m = some us → (if (okD a && okD (.fl us)) = true then some (us.any fun z => PyData.eqv (toD z) (toD a)) else none) = some ans → wpAny (model X.prog X.w) X.A (compareOp op v u) (EP X pins σ Q) X.xe s := by
    intro us e1 e
    by_cases hk : (okD a && okD (.fl us)) = true
    · rw [if_pos hk] at e
      rw [Bool.and_eq_true] at hk
      obtain ⟨l, xs, rfl, h1, h2⟩ := seqL_ok C rb e1
      have l1 : layU a = true := (Bool.and_eq_true _ _ ▸ hk.1 : _ ∧ _).1
      have l2 : layU (.fl us) = true := (Bool.and_eq_true _ _ ▸ hk.2 : _ ∧ _).1
      have d1 : Dp X.K H x (toD a) := RU.dp l1 ra
      have d2 : Dp X.K H (.ref l) (.list (toDs us)) := .lst h1 (RUs.dp (us := us) l2 h2)
      have s1 := shaped_of hk.1
      have s2 : SeqAt.shaped (.list (toDs us)) = true := shaped_of hk.2
      cases neg with
      | true => subst hop; exact op_notInD hu pins s σ H _ _ v u Q I rx ry ⟨_, _, d1, d2, s1, s2, by rw [any_toDs, Option.some.inj e]; exact kq⟩
      | false => subst hop; exact op_inD hu pins s σ H _ _ v u Q I rx ry ⟨_, _, d1, d2, s1, s2, by rw [any_toDs, Option.some.inj e]; exact kq⟩
    · rw [if_neg hk] at e; cases e
  unfold inB at e
  split at e
  · split at e
    · cases e
      cases ra; cases rb
      rw [strIn_eq] at kq
      cases neg with
      | true => subst hop; exact op_notin_str pins s σ H _ _ v u Q I rx ry ⟨_, _, rfl, rfl, kq⟩
      | false => subst hop; exact op_in_str pins s σ H _ _ v u Q I rx ry ⟨_, _, rfl, rfl, kq⟩
    · cases e
  · rename_i us
    by_cases hk : (flatU a && us.all flatU) = true
    · rw [if_pos hk] at e
      rw [Bool.and_eq_true] at hk
      cases rb with
      | tup h hs =>
        have e2 := inV_ok ra hk.1 hs hk.2
        have e3 := e2.trans (Option.some.inj e)
        cases neg with
        | true => subst hop; exact op_notIn_seq pins s σ H _ _ v u Q I rx ry ⟨_, _, rfl, .inr h.sq, flat_ok ra hk.1, flats_ok hs hk.2, by rw [e3]; exact kq⟩
        | false => subst hop; exact op_in_seq pins s σ H _ _ v u Q I rx ry ⟨_, _, rfl, .inr h.sq, flat_ok ra hk.1, flats_ok hs hk.2, by rw [e3]; exact kq⟩
    · rw [if_neg hk] at e; cases e
  · split at e
    · rename_i us e1
      exact lists us e1 e
    · split at e
      · rename_i n _ _ _
        cases e1 : dicAt n m with
        | none => rw [e1] at e; cases e
        | some kvs =>
          rw [e1, Option.bind_some, Option.map_eq_some_iff] at e
          obtain ⟨q, e2, rfl⟩ := e
          obtain ⟨l, ps, rfl, h1, h2⟩ := dic_ok C rb e1
          have hb := kV_of ra e2
          subst hb
          have hv : u = Value.ref l := ry
          subst hv
          have G : DGet H l (kV q) (valV ps q) := .inl ⟨ps, q, h1, rfl, rfl⟩
          have es : (valV ps q).isSome = (lookK q kvs).isSome := by
            cases e5 : lookK q kvs with
            | none => rw [(RKs.look (q := q) h2).2 e5]; rfl
            | some w => obtain ⟨z, e6, _⟩ := (RKs.look (q := q) h2).1 w e5; rw [e6]; rfl
          cases neg with
          | true => subst hop; exact d_notIn (by omega) I G rx fun s' I' => ⟨.bl (!(valV ps q).isSome), H, I', rfl, by rw [es]; exact kq⟩
          | false => subst hop; exact d_in (by omega) I G rx fun s' I' => ⟨.bl (valV ps q).isSome, H, I', rfl, by rw [es]; exact kq⟩
      · cases e
theorem op_inU (hu : X.A.units + 65 < cLine) : OpR X (compareOp .In) (rB (cn X) inU) := op_in_any false rfl hu
theorem op_ninU (hu : X.A.units + 65 < cLine) : OpR X (compareOp .NotIn) (rB (cn X) ninU) := op_in_any true rfl hu
end
/-! ### truth -/
def truU : U → MH → Option Bool
  | .non, _ => some false
  | .bl b, _ => some b
  | .int i, _ => some (i != 0)
  | .str x, _ => if lineOk x.length = true then some ((x.length : Int) != 0) else none
  | .tup us, _ => some (!us.isEmpty)
  | .fl us, _ => some (!us.isEmpty)
  | .cl us, _ => some (!us.isEmpty)
  | .ref n, m => (match m[n]? with
    | some (.lst us) => some (!us.isEmpty)
    | some (.dic false kvs) => some (!kvs.isEmpty)
    | _ => none)
  | _, _ => none
def cTruth (a : E1) : Fn1 Bool := fun t m => (a t m).bind fun u m1 => ofO ((truU u m1).map fun b => (b, m1))
theorem RUs.empty {c : Cn} {r : Gh} {H : Hp} {us : List U} {xs : List V} (h : RUs c r H us xs) : us.isEmpty = xs.isEmpty := by cases h <;> rfl
theorem tru_U {c : Cn} {r : Gh} {H : Hp} {m : MH} (C : Corr c r m H) {u : U} {v : V} {b : Bool} (ru : RU c r H u v) (e : truU u m = some b) : TruV c.K v H b := by
  cases ru with
  | non => cases e; rfl
  | bl b => cases e; rfl
  | int i => cases e; rfl
  | str x =>
    simp only [truU] at e
    by_cases h : lineOk x.length = true
    · rw [if_pos h] at e; cases e; exact ⟨lineOk_of h, rfl⟩
    · rw [if_neg h] at e; cases e
  | tup h hs => cases e; exact .inr (.inl ⟨_, h.sq, by rw [hs.empty]⟩)
  | fl h1 h2 h3 hs => cases e; exact .inl ⟨_, SqL.of h3, by rw [hs.empty]⟩
  | cl h hs => cases e; exact .inl ⟨_, h.sq, by rw [hs.empty]⟩
  | @ref n a h =>
    cases q : m[n]? with
    | none => simp only [truU, q] at e; cases e
    | some o =>
      obtain ⟨a', ho, h1, h2, h3⟩ := C.at_ n _ q
      rw [h] at h1
      cases h1
      cases o with
      | lst us => simp only [truU, q] at e; cases e; cases h3 with | lst hs => exact .inl ⟨_, SqL.of h2, by rw [hs.empty]⟩
      | dic l kvs =>
        cases l with
        | false => simp only [truU, q] at e; cases e; cases h3 with | dic hs => exact .inr (.inr ⟨_, h2, by cases hs <;> rfl⟩)
        | true => simp only [truU, q] at e; cases e
      | ins x fs => simp only [truU, q] at e; cases e
  | _ => cases e
theorem mi_truth {X : Cx} {W : WX} {a : Expr} {fa : E1} (ha : PE X a (tE (cn X) W fa)) (he : ∀ whole, isTrue a X.env whole = (do let v ← whole; standAt a.pos; holding [v] (truthy v))) : PT X a (tTs (cn X) W (cTruth fa)) := by
  refine (pt_truth ha he).weak fun s H Q ⟨r, m, t, C, E, k⟩ => ⟨r, m, t, C, E, (kE.bind k).imp ?_⟩
  rintro x H1 ⟨r1, m1, u, e1, C1, ru, k1⟩
  cases e : truU u m1 with
  | none => rw [e] at k1; exact k1.elim
  | some b => rw [e] at k1; exact ⟨b, tru_U C1 ru e, kE.ok (R := Bl) k1 C1 rfl⟩
end Mi
set_option Elab.async false
set_option linter.all false
set_option maxRecDepth 100000
set_option maxHeartbeats 4000000
/-! Mi, part G: calls of the program's own defs, classes and methods. -/
namespace Mi
open PySem PySem.Spec PyProof.Rows L2
/-- the promise of a def that does f -/
def spU (c : Cn) (n : Nat) (f : List U → MH → Out U) : Sp := fun vs H Q E => ∃ r m us, Corr c r m H ∧ RUs c r H us vs ∧ us.length = n ∧ kE c RU (fun cls d _ H' => E cls d H') r H [] Q (f us m)
theorem spU_len {c : Cn} {n : Nat} {f : List U → MH → Out U} {vs : List V} {H : Hp} {Q : VK} {E : XK} (h : spU c n f vs H Q E) : vs.length = n := by
  obtain ⟨r, m, us, C, R, l, _⟩ := h
  exact R.length.symm.trans l
/-- a call by values: n positional ones, keywords ks -/
def CallW (X : Cx) (W : WX) (fv : Value) (n : Nat) (ks : List Str) (f : List U → List U → MH → Out U) : Prop :=
  ∀ (pins : List (Addr × Obj)) (s : Shared) (σ : L2.St) (H : Hp) (us ws : List Value) (vs zs : List V) (Q : VK), Inv X pins σ H s → Vals vs us → Vals zs ws → zs.length = ks.length →
    (∃ r m as bs, Corr (cn X) r m H ∧ RUs (cn X) r H as vs ∧ RUs (cn X) r H bs zs ∧ as.length = n ∧ kE (cn X) RU W r H σ Q (f as bs m)) → wpAny (model X.prog X.w) X.A (call fv us (ks.zip ws)) (EP X pins σ Q) X.xe s
/-- how a call binds, by own values -/
structure BindU (c : Cn) (fd : FuncData) (ps : List Str) (n : Nat) (ks : List Str) (g : List U → List U → List U) : Prop where
  ex : ∃ (gv : List Value → List Value → List Value) (gV : List V → List V → List V), KBn c.K fd ps n ks gv gV ∧
    ∀ (r : Gh) (H : Hp) (as bs : List U) (vs zs : List V), RUs c r H as vs → RUs c r H bs zs → as.length = n → bs.length = ks.length → RUs c r H (g as bs) (gV vs zs) ∧ (g as bs).length = ps.length
section
variable {X : Cx} {W : WX}
theorem call_end {pins : List (Addr × Obj)} {σ : L2.St} {H : Hp} {s : Shared} {Q : VK} (tk : Takes X W) (I : Inv X pins σ H s) {r : Result} {s' : Shared} (hq : CR (L2.CX X.prog X.w) X.stack X.prog X.w H s Q (WE W σ) r s') :
    match r with
    | .ok (.ret u) => EP X pins σ Q u s'
    | .ok _ => False
    | .error e => X.xe e s' := by
  cases r with
  | error e => exact passAt tk σ pins H s e s' I hq
  | ok fl =>
    cases fl with
    | ret u => exact I.after hq
    | next => exact hq
    | brk => exact hq
    | cont => exact hq
theorem callW_fn {k n : Nat} {f : Addr} {fd : FuncData} {ps ks : List Str} {phi : List U → MH → Out U} {g : List U → List U → List U} (tk : Takes X W)
    (F : FnOk X.prog X.w X.K X.mg X.base (L2.CX X.prog X.w) k f fd ps (spU (cn X) ps.length phi)) (hr : Room k X.A) (hb : BindU (cn X) fd ps n ks g) :
    CallW X W (.ref f) n ks (fun as bs m => phi (g as bs) m) := by
  intro pins s σ H us ws vs zs Q I rv rz lz h
  obtain ⟨r, m, as, bs, C, R1, R2, la, k1⟩ := h
  obtain ⟨gv, gV, KB, hg⟩ := hb.ex
  have l1 : vs.length = n := R1.length.symm.trans la
  have l2 : bs.length = ks.length := R2.length.trans lz
  obtain ⟨R3, l3⟩ := hg r H as bs vs zs R1 R2 la l2
  have hsp : spU (cn X) ps.length phi (gV vs zs) H Q (WE W σ) := by
    refine ⟨r, m, g as bs, C, R3, l3, ?_⟩
    dsimp only at k1
    cases e : phi (g as bs) m with
    | ok u m' => rw [e] at k1; exact k1
    | err x m' => rw [e] at k1; exact k1
    | bad => rw [e] at k1; exact (show False from k1).elim
  refine wpAny_call (codeAny_mono (F.run X.A X.stack s H ⟨us, ks.zip ws⟩ (gv us ws) (gV vs zs) Q (WE W σ) hr I.env0 (KB.to s us ws I.kIn (rv.length.symm.trans l1) (rz.length.symm.trans lz)) (KB.rel rv rz) hsp) fun r s' hq => ?_)
  have q := call_end tk I hq
  cases r with
  | error e => exact q
  | ok fl => cases fl <;> exact q
/-- what making an instance does: the new thing, then its __init__ -/
def makeF (x : Str) (phi : List U → MH → Out U) (g : List U → List U → List U) : List U → List U → MH → Out U := fun as bs m =>
  (phi (g (.ref m.length :: as) bs) (m ++ [.ins x []])).bind fun u m1 => match u with
    | .non => .ok (.ref m.length) m1
    | _ => .bad
theorem callW_make {k n : Nat} {f C : Addr} {fd : FuncData} {ps ks : List Str} {phi : List U → MH → Out U} {g : List U → List U → List U} {x : Str} (tk : Takes X W) (M : Mk X.K C f) (hx : X.mg x = some (.ref C))
    (F : FnOk X.prog X.w X.K X.mg X.base (L2.CX X.prog X.w) k f fd ps (spU (cn X) ps.length phi)) (hr : Room (k + 1) X.A) (hb : BindU (cn X) fd ps (n + 1) ks g) :
    CallW X W (.ref C) n ks (makeF x phi g) := by
  intro pins s σ H us ws vs zs Q I rv rz lz h
  obtain ⟨r, m, as, bs, Co, R1, R2, la, k1⟩ := h
  obtain ⟨gv, gV, KB, hg⟩ := hb.ex
  have l1 : vs.length = n := R1.length.symm.trans la
  have l2 : bs.length = ks.length := R2.length.trans lz
  have fx : H (s.heap.objs.size + 1) = none := I.hok.fresh (Nat.le_succ _)
  have fdx : H s.heap.objs.size = none := I.hok.fresh (Nat.le_refl _)
  have nxd : s.heap.objs.size ≠ s.heap.objs.size + 1 := Nat.ne_of_lt (Nat.lt_succ_self _)
  have I2 := Inv.made (C := C) I
  obtain ⟨C1, e1, _, _⟩ := Co.beside (o := .own (s.heap.objs.size + 1)) fdx
  have fx1 : (upd H s.heap.objs.size (.own (s.heap.objs.size + 1))) (s.heap.objs.size + 1) = none := by rw [upd_ne nxd.symm]; exact fx
  obtain ⟨C2, e2, l3⟩ := C1.new (o := .ins x []) (ho := .ins C s.heap.objs.size []) fx1 (.ins hx .nil)
  have e12 := e1.trans e2
  have RR : RUs (cn X) ⟨r.r ++ [s.heap.objs.size + 1], r.z⟩ _ (.ref m.length :: as) (.ref (s.heap.objs.size + 1) :: vs) := .cons (.ref l3) (R1.ext e12.w)
  obtain ⟨R3, l4⟩ := hg _ _ (.ref m.length :: as) bs (.ref (s.heap.objs.size + 1) :: vs) zs RR (R2.ext e12.w) (congrArg Nat.succ la) l2
  have k2 := kE.from k1 e12
  unfold makeF at k2
  have hsp : spU (cn X) ps.length phi (gV (.ref (s.heap.objs.size + 1) :: vs) zs) (upd (upd H s.heap.objs.size (.own (s.heap.objs.size + 1))) (s.heap.objs.size + 1) (.ins C s.heap.objs.size []))
      (fun v H2 => v = .non ∧ Q (.ref (s.heap.objs.size + 1)) H2) (WE W σ) := by
    refine ⟨_, _, _, C2, R3, l4, ?_⟩
    cases e : phi (g (.ref m.length :: as) bs) (m ++ [.ins x []]) with
    | ok u m' =>
      rw [e] at k2
      intro r' H' v e3 C3 ru
      rw [Out.bind_ok] at k2
      cases u with
      | non => cases ru; exact ⟨rfl, k2 r' H' _ e3 C3 (.ref (pre_get e3.w.pre l3))⟩
      | _ => exact (show False from k2).elim
    | err x m' => rw [e] at k2; exact k2
    | bad => rw [e] at k2; exact k2.elim
  have r1 : Vals (V.ref (s.heap.objs.size + 1) :: vs) (Value.ref (s.heap.objs.size + 1) :: us) := .cons rfl rv
  have q1 : (Value.ref (s.heap.objs.size + 1) :: us).length = n + 1 := r1.length.symm.trans (congrArg Nat.succ l1)
  refine wpAny_call (make_map (f := f) I.kIn M.makes M.init (beq_iff_eq.mp M.fn) (codeAny_mono (F.run _ X.stack _ _ ⟨Value.ref (s.heap.objs.size + 1) :: us, ks.zip ws⟩ (gv (Value.ref (s.heap.objs.size + 1) :: us) ws) _ _ (WE W σ) (hr.make C us (ks.zip ws))
    (I2.env0.make C us (ks.zip ws)) (KB.to _ (Value.ref (s.heap.objs.size + 1) :: us) ws I2.kIn q1 (rz.length.symm.trans lz)) (KB.rel r1 rz) hsp) fun r s' hq' => ?_))
  have q := call_end tk I2 hq'
  cases r with
  | error e => exact q
  | ok fl =>
    cases fl with
    | ret u =>
      obtain ⟨v, H', I3, rv, ev, q3⟩ := q
      subst ev
      exact ⟨rv, ⟨V.ref (s.heap.objs.size + 1), H', I3, rfl, q3⟩⟩
    | next => exact q
    | brk => exact q
    | cont => exact q
end
/-! ### by name -/
def kwNames : List Keyword → Option (List Str)
  | [] => some []
  | ⟨some x, _, _⟩ :: r => (kwNames r).map (x :: ·)
  | ⟨none, _, _⟩ :: _ => none
theorem kw_ok {pos : Pos} {env : Env} : ∀ {kws : List Keyword} {ks : List Str}, kwNames kws = some ks → (backToKw pos (keywordEach kws env)).all (·.1.isSome) = true ∧ (backToKw pos (keywordEach kws env)).filterMap (·.1) = ks ∧ (backToKw pos (keywordEach kws env)).any (·.1.isNone) = false
  | [], _, h => by cases h; exact ⟨rfl, rfl, rfl⟩
  | ⟨some x, e, p⟩ :: r, ks, h => by
    simp only [kwNames, Option.map_eq_some_iff] at h
    obtain ⟨l, h1, rfl⟩ := h
    obtain ⟨a, b, d⟩ := kw_ok (pos := pos) (env := env) h1
    exact ⟨a, congrArg (x :: ·) b, d⟩
  | ⟨none, _, _⟩ :: _, _, h => by cases h
theorem kw_len : ∀ {kws : List Keyword} {ks : List Str}, kwNames kws = some ks → kws.length = ks.length
  | [], _, h => by cases h; rfl
  | ⟨some x, e, p⟩ :: r, ks, h => by
    simp only [kwNames, Option.map_eq_some_iff] at h
    obtain ⟨l, h1, rfl⟩ := h
    exact congrArg (· + 1) (kw_len h1)
  | ⟨none, _, _⟩ :: _, _, h => by cases h
def cCallK (n k : Nat) (f : List U → List U → MH → Out U) (a b : Fn1 (List U)) : E1 := fun t m => (a t m).bind fun us m1 => (b t m1).bind fun zs m2 => if us.length = n ∧ zs.length = k then f us zs m2 else .bad
section
variable {X : Cx} {W : WX} {x : Str} {p pos : Pos} {args : List Expr} {kws : List Keyword} {fa fb : Fn1 (List U)} {ks : List Str}
def PKw (X : Cx) (W : WX) (kws : List Keyword) (f : Fn1 (List U)) : Prop := PK X kws (tAr (cn X) W f)
theorem pkw_nil : PKw X W [] cNil := ⟨fun pos pins s σ H Q I ⟨r, m, t, C, E, k⟩ => pk_nil.run pos pins s σ H Q I (kE.ok k C .nil)⟩
theorem pkw_cons {nm : Option Str} {e : Expr} {kp : Pos} {fe : E1} (he : PE X e (tE (cn X) W fe)) (hr : PKw X W kws fb) : PKw X W (⟨nm, e, kp⟩ :: kws) (cCons fe fb) := by
  refine ⟨fun pos pins s σ H Q I ⟨r, m, t, C, E, k⟩ => (pk_cons he hr).run pos pins s σ H Q I ⟨r, m, t, C, E, (kE.bind k).imp ?_⟩⟩
  rintro x H1 ⟨r1, m1, u, e1, C1, ru, k1⟩
  refine ⟨r1, m1, t, C1, E.ext e1.w, (kE.bind k1).imp ?_⟩
  rintro y H2 ⟨r2, m2, w, e2, C2, rw2, k2⟩
  exact kE.ok k2 C2 (.cons (ru.ext e2.w) rw2)
/-- the arguments and keywords of a call, then the call -/
theorem args_then {f : Value} {first : List Value} {n : Nat} {phi : List U → List U → MH → Out U} (hs : args.all noStar = true) (hk : kwNames kws = some ks) (ha : PA X args (tAr (cn X) W fa)) (h0 : args = [] → fa = cNil) (hb : PKw X W kws fb)
    {pins : List (Addr × Obj)} {s : Shared} {σ : L2.St} {H : Hp} {Q : VK} (I : Inv X pins σ H s) (kf : PySem.W.keepIn X.K f = true) {r : Gh} {m : MH} {t : Env1} (C : Corr (cn X) r m H) (E : EnvR (cn X) r H t σ) (k : kE (cn X) RU W r H σ Q (cCallK n ks.length phi fa fb t m))
    (h : ∀ (s : Shared) (H1 : Hp) (us ws : List Value) (vs zs : List V), Inv X pins σ H1 s → Vals vs us → Vals zs ws → zs.length = ks.length →
      (∃ r1 m1 as bs, Ext r H r1 H1 ∧ Corr (cn X) r1 m1 H1 ∧ RUs (cn X) r1 H1 as vs ∧ RUs (cn X) r1 H1 bs zs ∧ as.length = n ∧ kE (cn X) RU W r1 H1 σ Q (phi as bs m1)) → wpAny (model X.prog X.w) X.A (call f (first ++ us) (ks.zip ws)) (EP X pins σ Q) X.xe s) :
    wpAny (model X.prog X.w) X.A (callWith pos f first (backTo pos (starEach args X.env)) (backToKw pos (keywordEach kws X.env))) (EP X pins σ Q) X.xe s := by
  obtain ⟨k1, k2, k3⟩ := kw_ok (pos := pos) (env := X.env) hk
  have go : ∀ (us : List Value) (s1 : Shared), AP X pins σ (Mid (cn X) RUs r H fun r1 m1 as vs H1 => kE (cn X) RU W r1 H1 σ Q ((fb t m1).bind fun zs m2 => if as.length = n ∧ zs.length = ks.length then phi as zs m2 else .bad)) us s1 →
      wpAny (model X.prog X.w) X.A (evalAll ((backToKw pos (keywordEach kws X.env)).map (·.2))) (fun ws s₂ => X.K.In s₂.heap ∧ wpAny (model X.prog X.w) X.A (call f (first ++ us) (((backToKw pos (keywordEach kws X.env)).filterMap (·.1)).zip ws)) (EP X pins σ Q) X.xe s₂) X.xe s1 := by
    rintro us s1 ⟨vs, H1, I1, rv, r1, m1, as, e1, C1, R1, kk⟩
    refine thn (hb.run pos pins s1 σ H1 _ I1 ⟨r1, m1, t, C1, E.ext e1.w, kE.bind kk⟩) fun ws s2 ⟨zs, H2, I2, rz, r2, m2, bs, e2, C2, R2, k4⟩ => ⟨I2.kIn, ?_⟩
    rw [k2]
    have k5 : kE (cn X) RU W r2 H2 σ Q (if as.length = n ∧ bs.length = ks.length then phi as bs m2 else .bad) := k4
    by_cases hn : as.length = n ∧ bs.length = ks.length
    · rw [if_pos hn] at k5
      exact h s2 H2 us ws vs zs I2 rv rz (R2.length.symm.trans hn.2) ⟨r2, m2, as, bs, e1.trans e2, C2, R1.ext e2.w, R2, hn.1, k5⟩
    · rw [if_neg hn] at k5; exact (show False from k5).elim
  cases args with
  | nil =>
    refine PySem.W.callWith_KW0 (h₀ := X.base) I.ok.mod.kin kf k1 (go [] s ⟨[], H, I, .nil, r, m, [], Ext.refl r H, C, .nil, ?_⟩) (by show (false || _) = false; rw [k3]; rfl)
    rw [h0 rfl] at k
    exact k
  | cons e es =>
    have hs' : noStar e = true ∧ es.all noStar = true := by rw [List.all_cons, Bool.and_eq_true] at hs; exact hs
    refine PySem.W.callWith_KW (h₀ := X.base) I.ok.mod.kin kf k1 (thn (ha.run pos pins s σ H _ I ⟨r, m, t, C, E, kE.bind k⟩) fun us s1 q => go us s1 q) ?_ (star_cons hs'.1)
    rw [k3, Bool.or_false]
    exact star_plain hs
/-- f(..), C(..) of a module's def or class -/
theorem mi_call {f : Addr} {n : Nat} {phi : List U → List U → MH → Out U} (hf : CallW X W (.ref f) n ks phi) (hg : Gl X x) (hm : X.mg x = some (.ref f)) (kf : PySem.W.keepIn X.K (.ref f) = true) (hdb : (x == ("__debug__" : Str)) = false)
    (hs : args.all noStar = true) (hk : kwNames kws = some ks) (ha : PA X args (tAr (cn X) W fa)) (h0 : args = [] → fa = cNil) (hb : PKw X W kws fb) : PE X (.Call (.Name x p) args kws pos) (tE (cn X) W (cCallK n ks.length phi fa fb)) := by
  refine ⟨fun pins s σ H Q I ⟨r, m, t, C, E, k⟩ => wpAny_Call_Name_kw (ld_glob I hg hm ?_ hdb)⟩
  refine args_then hs hk ha h0 hb I kf C E k fun s H1 us ws vs zs I1 rv rz lz ⟨r1, m1, as, bs, e1, C1, R1, R2, la, kk⟩ => ?_
  exact hf pins s σ H1 us ws vs zs Q I1 rv rz lz ⟨r1, m1, as, bs, C1, R1, R2, la, kk⟩
/-- a call of a built-in by its name -/
theorem mi_bi {id : String} {g : FU} {e : Expr} {es : List Expr} (hc : CallR X (.builtin id) (rF (cn X) g)) (hg : Gl X x) (hm : X.mg x = none) (hv : bootBuiltins x = some (.builtin id)) (hn : x ≠ "__name__") (hdb : (x == ("__debug__" : Str)) = false)
    (hs : (e :: es).all noStar = true) (ha : PA X (e :: es) (tAr (cn X) W fa)) : PE X (.Call (.Name x p) (e :: es) [] pos) (tE (cn X) W (cFn g fa)) := by
  have hs' : noStar e = true ∧ es.all noStar = true := by rw [List.all_cons, Bool.and_eq_true] at hs; exact hs
  refine (pe_callB hc hg hm hv ha hn hdb (star_cons hs'.1) (star_plain hs'.2)).weak fun s H Q ⟨r, m, t, C, E, k⟩ => ⟨r, m, t, C, E, (kE.bind k).imp ?_⟩
  rintro x H1 ⟨r1, m1, u, e1, C1, ru, k1⟩
  exact ⟨r1, m1, u, C1, ru, kE_ofO k1⟩
theorem mi_bity {id : String} {g : FU} {e : Expr} {es : List Expr} (hc : CallR X (.type id) (rF (cn X) g)) (hg : Gl X x) (hm : X.mg x = none) (hv : bootBuiltins x = some (.type id)) (hn : x ≠ "__name__") (hdb : (x == ("__debug__" : Str)) = false)
    (hs : (e :: es).all noStar = true) (ha : PA X (e :: es) (tAr (cn X) W fa)) : PE X (.Call (.Name x p) (e :: es) [] pos) (tE (cn X) W (cFn g fa)) := by
  have hs' : noStar e = true ∧ es.all noStar = true := by rw [List.all_cons, Bool.and_eq_true] at hs; exact hs
  refine (pe_callTy hc hg hm hv ha hn hdb (star_cons hs'.1) (star_plain hs'.2)).weak fun s H Q ⟨r, m, t, C, E, k⟩ => ⟨r, m, t, C, E, (kE.bind k).imp ?_⟩
  rintro x H1 ⟨r1, m1, u, e1, C1, ru, k1⟩
  exact ⟨r1, m1, u, C1, ru, kE_ofO k1⟩
end
end Mi
set_option Elab.async false
set_option linter.all false
set_option maxRecDepth 100000
set_option maxHeartbeats 4000000
/-! Mi, part H: statements, targets, loops. -/
namespace Mi
open PySem PySem.Spec PyProof.Rows L2
inductive SO where
  | nx (t : Env1) (m : MH)
  | rt (u : U) (m : MH)
  | bk (t : Env1) (m : MH)
  | ct (t : Env1) (m : MH)
  | err (x : Ex) (t : Env1) (m : MH)
  | bad
abbrev S1 := Env1 → MH → SO
def kS (c : Cn) (W : WX) (r : Gh) (H : Hp) (D : Ends) : SO → Prop
  | .nx t' m' => ∀ r' H' s', Ext r H r' H' → Corr c r' m' H' → EnvR c r' H' t' s' → D.nx s' H'
  | .rt u m' => ∀ r' H' v, Ext r H r' H' → Corr c r' m' H' → RU c r' H' u v → D.rt v H'
  | .bk t' m' => ∀ r' H' s', Ext r H r' H' → Corr c r' m' H' → EnvR c r' H' t' s' → D.bk s' H'
  | .ct t' m' => ∀ r' H' s', Ext r H r' H' → Corr c r' m' H' → EnvR c r' H' t' s' → D.ct s' H'
  | .err x t' m' => ∀ r' H' s' cls d, Ext r H r' H' → Corr c r' m' H' → EnvR c r' H' t' s' → XR c r' H' x cls d → W cls d s' H'
  | .bad => False
def tS (c : Cn) (W : WX) (f : S1) : TS := fun D s H => ∃ r m t, Corr c r m H ∧ EnvR c r H t s ∧ kS c W r H D (f t m)
theorem kS.from {c : Cn} {W : WX} {r r1 : Gh} {H H1 : Hp} {D : Ends} {o : SO} (h : kS c W r H D o) (e : Ext r H r1 H1) : kS c W r1 H1 D o := by
  cases o with
  | nx t m => exact fun r' H' v e1 C R1 => h r' H' v (e.trans e1) C R1
  | rt t m => exact fun r' H' v e1 C R1 => h r' H' v (e.trans e1) C R1
  | bk t m => exact fun r' H' v e1 C R1 => h r' H' v (e.trans e1) C R1
  | ct t m => exact fun r' H' v e1 C R1 => h r' H' v (e.trans e1) C R1
  | err x t m => exact fun r' H' s' cls d e1 C R1 => h r' H' s' cls d (e.trans e1) C R1
  | bad => exact h
/-- an expression's value, then a statement's rest -/
def sE {α : Type} (f : Fn1 α) (k : α → S1) : S1 := fun t m => match f t m with
  | .ok u m' => k u t m'
  | .err x m' => .err x t m'
  | .bad => .bad
def sNx : S1 := fun t m => .nx t m
def sSeq (a b : S1) : S1 := fun t m => match a t m with
  | .nx t' m' => b t' m'
  | o => o
def sRet (a : E1) : S1 := sE a fun u _ m => .rt u m
def sDrop (a : E1) : S1 := sE a fun _ t m => .nx t m
def sIf (q : Fn1 Bool) (a b : S1) : S1 := sE q fun x => match x with
  | true => a
  | false => b
abbrev G1 := U → Env1 → MH → Option (Env1 × MH)
def sAsg (a : E1) (g : G1) : S1 := sE a fun u t m => match g u t m with
  | some (t', m') => .nx t' m'
  | none => .bad
def gName (i : Nat) : G1 := fun u t m => some (t.set i (some u), m)
def EvR : Rel Env1 L2.St := fun c r H t s => EnvR c r H t s
/-- the frame behind a target: only the slots L have changed -/
def EvL (L : List Nat) (s0 : L2.St) : Rel Env1 L2.St := fun c r H t s => EnvR c r H t s ∧ s.length = s0.length ∧ ∀ i, i ∉ L → s[i]? = s0[i]?
def tGt (c : Cn) (L : List Nat) (g : G1) : TG := fun v s H Q => ∃ r m t u, Corr c r m H ∧ EnvR c r H t s ∧ RU c r H u v ∧ kO c (EvL L s) r H Q (g u t m)
section
variable {X : Cx} {c : Cn} {W : WX} {e : Expr} {st : Stmt} {sts : List Stmt} {f : E1} {a b : S1} {pos : Pos}
theorem kS_E {α β : Type} {R : Rel α β} {r : Gh} {m : MH} {H : Hp} {t : Env1} {s : L2.St} {D : Ends} {f : Fn1 α} {k : α → S1} (E : EnvR c r H t s) (h : kS c W r H D (sE f k t m)) :
    kE c R W r H s (Mid c R r H fun r1 m1 u x H1 => EnvR c r1 H1 t s ∧ kS c W r1 H1 D (k u t m1)) (f t m) := by
  unfold sE at h
  cases e : f t m with
  | ok u m' => rw [e] at h; exact fun r' H' v e1 C R1 => ⟨r', m', u, e1, C, R1, E.ext e1.w, h.from e1⟩
  | err x m' => rw [e] at h; exact fun r' H' cls d e1 C X1 => h r' H' s cls d e1 C (E.ext e1.w) X1
  | bad => rw [e] at h; exact h
theorem ms_nx : PSs X [] (tS c W sNx) := pss_nil.weak fun D s H ⟨r, m, t, C, E, k⟩ => k r H s (Ext.refl r H) C E
theorem ms_pass : PS X (.Pass pos) (tS c W sNx) := ps_pass.weak fun D s H ⟨r, m, t, C, E, k⟩ => k r H s (Ext.refl r H) C E
theorem ms_doc {x : Str} {j : Nat} {p : Pos} : PS X (.Expr (.Constant (.str x) j p) pos) (tS c W sNx) := ps_doc.weak fun D s H ⟨r, m, t, C, E, k⟩ => k r H s (Ext.refl r H) C E
theorem ms_break : PS X (.Break pos) (tS c W fun t m => .bk t m) := ps_break.weak fun D s H ⟨r, m, t, C, E, k⟩ => k r H s (Ext.refl r H) C E
theorem ms_cont : PS X (.Continue pos) (tS c W fun t m => .ct t m) := ps_continue.weak fun D s H ⟨r, m, t, C, E, k⟩ => k r H s (Ext.refl r H) C E
theorem ms_cons (h1 : PS X st (tS c W a)) (h2 : PSs X sts (tS c W b)) : PSs X (st :: sts) (tS c W (sSeq a b)) := by
  refine (pss_cons h1 h2).weak fun D s H ⟨r, m, t, C, E, k⟩ => ⟨r, m, t, C, E, ?_⟩
  unfold sSeq at k
  cases e : a t m with
  | nx t' m' => rw [e] at k; exact fun r' H' s' e1 C1 E1 => ⟨r', m', t', C1, E1, k.from e1⟩
  | rt u m' => rw [e] at k; exact k
  | bk t' m' => rw [e] at k; exact k
  | ct t' m' => rw [e] at k; exact k
  | err x t' m' => rw [e] at k; exact k
  | bad => rw [e] at k; exact k
theorem ms_ret (he : PE X e (tE c W f)) : PS X (.Return (some e) pos) (tS c W (sRet f)) := by
  refine (ps_ret he).weak fun D s H ⟨r, m, t, C, E, k⟩ => ⟨r, m, t, C, E, (kS_E E k).imp ?_⟩
  rintro x H1 ⟨r1, m1, u, e1, C1, ru, E1, k1⟩
  exact k1 _ _ _ (Ext.refl _ _) C1 ru
theorem ms_retN : PS X (.Return none pos) (tS c W (sRet (cK .non))) := ps_retN.weak fun D s H ⟨r, m, t, C, E, k⟩ => k r H _ (Ext.refl r H) C .non
theorem ms_drop (he : PE X e (tE c W f)) (hs : swapsWith e none pos.line X.env = pure false) : PS X (.Expr e pos) (tS c W (sDrop f)) := by
  refine (ps_expr he hs).weak fun D s H ⟨r, m, t, C, E, k⟩ => ⟨r, m, t, C, E, (kS_E E k).imp ?_⟩
  rintro x H1 ⟨r1, m1, u, e1, C1, ru, E1, k1⟩
  exact k1 _ _ _ (Ext.refl _ _) C1 E1
theorem ms_if {q : Fn1 Bool} {p1 p2 : List Stmt} (hq : PT X e (tTs c W q)) (ha : PSs X p1 (tS c W a)) (hb : PSs X p2 (tS c W b)) : PS X (.If e p1 p2 pos) (tS c W (sIf q a b)) := by
  refine (ps_if hq ha hb).weak fun D s H ⟨r, m, t, C, E, k⟩ => ⟨r, m, t, C, E, (kS_E E k).imp ?_⟩
  rintro x H1 ⟨r1, m1, u, e1, C1, rfl, E1, k1⟩
  cases u with
  | true => exact iteT ⟨r1, m1, t, C1, E1, k1⟩
  | false => exact iteF ⟨r1, m1, t, C1, E1, k1⟩
theorem mg_name {i : Nat} {x : Str} (hN : X.N.Nodup) (hi : X.N[i]? = some x) (hx : Loc X.env.scope x) (hf : X.fn x = true ∨ X.env.scope.names.lookup x = some .local) : PG X (.Name x pos) (tGt c [i] (gName i)) := by
  refine ⟨fun pins s σ H v u Q I rv ⟨r, m, t, w, C, E, ru, k⟩ => (pg_name hN hi hx hf).run pins s σ H v u Q I rv ?_⟩
  exact k r H _ (Ext.refl r H) C ⟨E.set ru i, List.length_set, fun j hj => List.getElem?_set_ne (fun z => hj (by rw [z]; exact List.mem_singleton.mpr rfl))⟩
theorem ms_asg {tg : Expr} {L : List Nat} {g : G1} (he : PE X e (tE c W f)) (hg : PG X tg (tGt c L g)) (hs : swapsWithSole [tg] e pos.line X.env = pure false) (hw : swappedStores [tg] e X.env = pure none)
    (h1 : (assignEach [tg] X.env).map (·.2) = [assign tg X.env]) : PS X (.Assign [tg] e pos) (tS c W (sAsg f g)) := by
  refine (ps_asg he hg hs hw h1).weak fun D s H ⟨r, m, t, C, E, k⟩ => ⟨r, m, t, C, E, (kS_E E k).imp ?_⟩
  rintro x H1 ⟨r1, m1, u, e1, C1, ru, E1, k1⟩
  refine ⟨r1, m1, t, u, C1, E1, ru, ?_⟩
  cases e2 : g u t m1 with
  | some p => rw [e2] at k1; exact fun r' H' s' e3 C3 E3 => k1 r' H' s' e3 C3 E3.1
  | none => rw [e2] at k1; exact k1
end
/-! ### several targets -/
/-- one after another -/
def gAll : List G1 → List U → Env1 → MH → Option (Env1 × MH)
  | [], [], t, m => some (t, m)
  | g :: gs, u :: us, t, m => (g u t m).bind fun p => gAll gs us p.1 p.2
  | _, _, _, _ => none
def tGts (c : Cn) (L : List Nat) (gs : List G1) : TGs := fun vs s H Q => ∃ r m t us, Corr c r m H ∧ EnvR c r H t s ∧ RUs c r H us vs ∧ kO c (EvL L s) r H Q (gAll gs us t m)
/-- the items of what is unpacked -/
def itemsU (u : U) (m : MH) : Option (List U) := match u with
  | .tup us => some us
  | u => seqL u m
def gTup (gs : List G1) : G1 := fun u t m => (itemsU u m).bind fun us => if us.length = gs.length then gAll gs us t m else none
theorem kO.from {α β : Type} {c : Cn} {R : Rel α β} {r r1 : Gh} {H H1 : Hp} {Q : β → Hp → Prop} {o : Option (α × MH)} (h : kO c R r H Q o) (e : Ext r H r1 H1) : kO c R r1 H1 Q o := by
  cases o with
  | none => exact h
  | some p => exact fun r' H' v e1 C R1 => h r' H' v (e.trans e1) C R1
section
variable {X : Cx} {e : Expr} {es : List Expr} {g : G1} {gs : List G1} {pos : Pos}
theorem each_cons {env : Env} (h : noStar e = true) : (assignEach (e :: es) env).map (·.2) = assign e env :: (assignEach es env).map (·.2) := by
  cases e <;> first | rfl | (exact nomatch (show false = true from h))
theorem each_len {env : Env} : ∀ {es : List Expr}, (assignEach es env).length = es.length
  | [] => rfl
  | e :: es => by
    have ih := each_len (env := env) (es := es)
    cases e <;> exact congrArg (· + 1) ih
theorem each_nostar {env : Env} : ∀ {es : List Expr}, es.all noStar = true → (assignEach es env).findIdx? (·.1) = none
  | [], _ => rfl
  | e :: es, h => by
    rw [List.all_cons, Bool.and_eq_true] at h
    have ih := each_nostar (env := env) h.2
    have : (assignEach (e :: es) env) = (false, assign e env) :: assignEach es env := by
      cases e <;> first | rfl | (exact nomatch (show false = true from h.1))
    rw [this, List.findIdx?_cons, ih]
    rfl
theorem mgs_nil : PGs X [] (tGts (cn X) [] []) := by
  refine ⟨fun pins s σ H vs us Q I rv ⟨r, m, t, ws, C, E, R, k⟩ => pgs_nil.run pins s σ H vs us Q I rv ?_⟩
  cases R with
  | nil => exact ⟨rfl, k r H _ (Ext.refl r H) C ⟨E, rfl, fun _ _ => rfl⟩⟩
  | cons _ _ => exact k.elim
theorem mgs_cons {L L' : List Nat} (hn : noStar e = true) (h1 : PG X e (tGt (cn X) L g)) (h2 : PGs X es (tGts (cn X) L' gs)) : PGs X (e :: es) (tGts (cn X) (L ++ L') (g :: gs)) := by
  refine ⟨fun pins s σ H vs us Q I rv ⟨r, m, t, ws, C, E, R, k⟩ => (pgs_cons h1 h2 (each_cons hn)).run pins s σ H vs us Q I rv ?_⟩
  cases R with
  | nil => exact k.elim
  | cons q qs =>
    refine ⟨_, _, rfl, r, m, t, _, C, E, q, ?_⟩
    simp only [gAll] at k
    cases e1 : g _ t m with
    | none => rw [e1] at k; exact k
    | some p =>
      rw [e1] at k
      intro r' H' s' e2 C2 E2
      refine ⟨r', p.2, p.1, _, C2, E2.1, qs.ext e2.w, ?_⟩
      have k' := kO.from (show kO (cn X) (EvL (L ++ L') σ) r H Q (gAll gs _ p.1 p.2) from k) e2
      cases e3 : gAll gs _ p.1 p.2 with
      | none => rw [e3] at k'; exact k'
      | some p' =>
        rw [e3] at k'
        exact fun r4 H4 s4 e4 C4 E4 => k' r4 H4 s4 e4 C4 ⟨E4.1, E4.2.1.trans E2.2.1, fun i hi => (E4.2.2 i fun z => hi (List.mem_append_right _ z)).trans (E2.2.2 i fun z => hi (List.mem_append_left _ z))⟩
theorem mg_tup {n : Nat} (hc : X.calm = true) (hs : es.all noStar = true) {L : List Nat} (h : PGs X es (tGts (cn X) L gs)) (hl : es.length = gs.length) : PG X (.Tuple es n pos) (tGt (cn X) L (gTup gs)) := by
  refine ⟨fun pins s σ H v u Q I rv ⟨r, m, t, w, C, E, ru, k⟩ => ?_⟩
  unfold gTup at k
  cases e1 : itemsU w m with
  | none => rw [e1] at k; exact k.elim
  | some ws =>
    rw [e1, Option.bind_some] at k
    by_cases hn : ws.length = gs.length
    · rw [if_pos hn] at k
      have lists : seqL w m = some ws → wpAny (model X.prog X.w) X.A (assign (.Tuple es n pos) X.env u) (fun _ s' => ∃ σ' H', Inv X pins σ' H' s' ∧ Q σ' H') X.xe s := by
        intro e2
        obtain ⟨a, xs, rfl, h1, h2⟩ := seqL_ok C ru e2
        exact (pg_unl (n := es.length) hc h each_len (each_nostar hs)).run pins s σ H _ u Q I rv ⟨a, xs, rfl, h1, by rw [← h2.length, hn, hl], r, m, t, ws, C, E, h2, k⟩
      cases w with
      | tup us =>
        cases e1
        cases ru with
        | tup q qs => exact (pg_tup (n := es.length) hc h each_len (each_nostar hs)).run pins s σ H _ u Q I rv ⟨_, _, rfl, q.sq, by rw [← qs.length, hn, hl], r, m, t, _, C, E, qs, k⟩
      | _ => exact lists e1
    · rw [if_neg hn] at k; exact k.elim
end
/-! ### loops -/
/-- what is walked: how many, the item at a turn under the own heap as it is then, whether all is well at the end -/
structure ItU where
  len : Nat
  get : MH → Nat → Option U
  fin : MH → Bool
def JOk : Rel ItU It := fun c r H it J => ∀ (i : Nat) (r' : Gh) (m' : MH) (H' : Hp), ExtW r H r' H' → Corr c r' m' H' →
  (∀ u, i < it.len → it.get m' i = some u → J.go i H' ∧ ∀ x H'', J.yld i H' x H'' → Ext r' H' r' H'' ∧ Corr c r' m' H'' ∧ RU c r' H'' u x) ∧ (it.len ≤ i → it.fin m' = true → J.stop i H')
abbrev I1 := Fn1 ItU
abbrev tIt (c : Cn) (W : WX) (f : I1) : TI := tG c JOk W f
/-- items told ahead -/
def constIt (us : List U) : ItU := ⟨us.length, fun _ i => us[i]?, fun _ => true⟩
/-- a list of the own heap -/
def refIt (n k : Nat) : ItU := ⟨k, fun m i => match m[n]? with
  | some (.lst us) => if us.length = k then us[i]? else none
  | _ => none, fun m => match m[n]? with
  | some (.lst us) => decide (us.length = k)
  | _ => false⟩
def loopI (it : ItU) (g : G1) (b : S1) : Nat → Nat → S1
  | 0, _ => fun t m => if it.fin m = true then .nx t m else .bad
  | k + 1, i => fun t m => match it.get m i with
    | none => .bad
    | some u => (match g u t m with
      | none => .bad
      | some (t', m') => (match b t' m' with
        | .nx t2 m2 => loopI it g b k (i + 1) t2 m2
        | .ct t2 m2 => loopI it g b k (i + 1) t2 m2
        | .bk t2 m2 => .nx t2 m2
        | .rt u m2 => .rt u m2
        | .err x t2 m2 => .err x t2 m2
        | .bad => .bad))
def sFor (f : I1) (g : G1) (b : S1) : S1 := sE f fun it => loopI it g b it.len 0
/-- the loop over items told ahead -/
def loopL (g : G1) (b : S1) : List U → S1
  | [] => fun t m => .nx t m
  | u :: us => fun t m => match g u t m with
    | none => .bad
    | some (t', m') => (match b t' m' with
      | .nx t2 m2 => loopL g b us t2 m2
      | .ct t2 m2 => loopL g b us t2 m2
      | .bk t2 m2 => .nx t2 m2
      | .rt u m2 => .rt u m2
      | .err x t2 m2 => .err x t2 m2
      | .bad => .bad)
theorem loopL_eq (g : G1) (b : S1) (us : List U) : ∀ (k i : Nat) (t : Env1) (m : MH), i + k = us.length → loopI (constIt us) g b k i t m = loopL g b (us.drop i) t m
  | 0, i, t, m, h => by
    rw [List.drop_of_length_le (by omega)]
    rfl
  | k + 1, i, t, m, h => by
    have hi : i < us.length := by omega
    rw [List.drop_eq_getElem_cons hi]
    have e : (constIt us).get m i = some us[i] := List.getElem?_eq_getElem hi
    unfold loopI loopL
    rw [e]
    dsimp only
    cases g us[i] t m with
    | none => rfl
    | some p =>
      obtain ⟨t', m'⟩ := p
      dsimp only
      cases b t' m' with
      | nx t2 m2 => exact loopL_eq g b us k (i + 1) t2 m2 (by omega)
      | ct t2 m2 => exact loopL_eq g b us k (i + 1) t2 m2 (by omega)
      | _ => rfl
theorem loopL_all (g : G1) (b : S1) (us : List U) (t : Env1) (m : MH) : loopI (constIt us) g b (constIt us).len 0 t m = loopL g b us t m := loopL_eq g b us us.length 0 t m (Nat.zero_add _)
section
variable {X : Cx} {W : WX} {iter tg : Expr} {body : List Stmt} {f : I1} {g : G1} {b : S1} {pos : Pos}
theorem ms_for {L : List Nat} (hp : PassesOwn (model X.prog X.w) X.A X.env X.xe) (hc : X.calm = true) (hi : PI X tg iter (tIt (cn X) W f)) (hg : PG X tg (tGt (cn X) L g)) (hb : PSs X body (tS (cn X) W b))
    (hs : ∀ x, foldedSetIterable iter X.env x = pure x) : PS X (.For tg iter body [] pos) (tS (cn X) W (sFor f g b)) := by
  refine (ps_for hp hc hi hg hb hs).weak fun D s H ⟨r, m, t, C, E, k⟩ => ⟨r, m, t, C, E, (kS_E E k).imp ?_⟩
  rintro J H1 ⟨r1, m1, it, e1, C1, jo, E1, k1⟩
  refine ⟨fun i k s' H' => i + k = it.len ∧ ∃ r' m' t', Ext r1 H1 r' H' ∧ Corr (cn X) r' m' H' ∧ EnvR (cn X) r' H' t' s' ∧ kS (cn X) W r' H' D (loopI it g b k i t' m'), ⟨it.len, Nat.zero_add _, r1, m1, t, Ext.refl _ _, C1, E1, k1⟩, ?_⟩
  rintro i k s' H' ⟨hk, r', m', t', e2, C2, E2, k2⟩
  have jj := jo i r' m' H' e2.w C2
  cases k with
  | zero =>
    refine .inl ?_
    unfold loopI at k2
    by_cases hf : it.fin m' = true
    · rw [if_pos hf] at k2
      exact ⟨jj.2 (by omega) hf, k2 r' H' s' (Ext.refl _ _) C2 E2⟩
    · rw [if_neg hf] at k2; exact k2.elim
  | succ k =>
    refine .inr ?_
    unfold loopI at k2
    cases e3 : it.get m' i with
    | none => rw [e3] at k2; exact k2.elim
    | some u =>
      rw [e3] at k2
      dsimp only at k2
      obtain ⟨go, yl⟩ := jj.1 u (by omega) e3
      refine ⟨go, fun s2 H2 => (i + 1) + k = it.len ∧ ∃ r2 m2 t2, Ext r1 H1 r2 H2 ∧ Corr (cn X) r2 m2 H2 ∧ EnvR (cn X) r2 H2 t2 s2 ∧ kS (cn X) W r2 H2 D (loopI it g b k (i + 1) t2 m2), fun s2 H2 q => ⟨k, Nat.lt_succ_self _, q⟩, ?_⟩
      intro x H3 hy
      obtain ⟨e4, C4, ru⟩ := yl x H3 hy
      refine ⟨r', m', t', u, C4, E2.ext e4.w, ru, ?_⟩
      cases e5 : g u t' m' with
      | none => rw [e5] at k2; exact k2.elim
      | some p =>
        obtain ⟨t6, m6⟩ := p
        rw [e5] at k2
        dsimp only at k2
        intro r6 H6 s6 e6 C6 E6
        refine ⟨r6, m6, t6, C6, E6.1, ?_⟩
        have e06 := e4.trans e6
        cases e7 : b t6 m6 with
        | nx t7 m7 => rw [e7] at k2; exact fun r8 H8 s8 e8 C8 E8 => ⟨by omega, r8, m7, t7, (e2.trans e06).trans e8, C8, E8, k2.from (e06.trans e8)⟩
        | ct t7 m7 => rw [e7] at k2; exact fun r8 H8 s8 e8 C8 E8 => ⟨by omega, r8, m7, t7, (e2.trans e06).trans e8, C8, E8, k2.from (e06.trans e8)⟩
        | bk t7 m7 => rw [e7] at k2; exact fun r8 H8 s8 e8 C8 E8 => k2 r8 H8 s8 (e06.trans e8) C8 E8
        | rt u7 m7 => rw [e7] at k2; exact fun r8 H8 v8 e8 C8 R8 => k2 r8 H8 v8 (e06.trans e8) C8 R8
        | err x7 t7 m7 => rw [e7] at k2; exact fun r8 H8 s8 cls d e8 C8 E8 X8 => k2 r8 H8 s8 cls d (e06.trans e8) C8 E8 X8
        | bad => rw [e7] at k2; exact k2
/-- while, at most so many turns -/
def sWhile (q : Fn1 Bool) (b : S1) : Nat → S1
  | 0 => fun _ _ => .bad
  | k + 1 => sE q fun x => match x with
    | true => fun t m => (match b t m with
      | .nx t2 m2 => sWhile q b k t2 m2
      | .ct t2 m2 => sWhile q b k t2 m2
      | .bk t2 m2 => .nx t2 m2
      | .rt u m2 => .rt u m2
      | .err x t2 m2 => .err x t2 m2
      | .bad => .bad)
    | false => fun t m => .nx t m
theorem ms_while {q : Fn1 Bool} {c : Expr} {n : Nat} (hp : PassesOwn (model X.prog X.w) X.A X.env X.xe) (hq : PT X c (tTs (cn X) W q)) (hb : PSs X body (tS (cn X) W b)) : PS X (.While c body [] pos) (tS (cn X) W (sWhile q b n)) := by
  refine (ps_while hp hq hb).weak fun D s H ⟨r, m, t, C, E, k⟩ => ?_
  refine ⟨fun k s' H' => ∃ r' m' t', Ext r H r' H' ∧ Corr (cn X) r' m' H' ∧ EnvR (cn X) r' H' t' s' ∧ kS (cn X) W r' H' D (sWhile q b k t' m'), ⟨n, r, m, t, Ext.refl _ _, C, E, k⟩, ?_⟩
  rintro k s' H' ⟨r', m', t', e2, C2, E2, k2⟩
  cases k with
  | zero => exact k2.elim
  | succ k =>
    refine ⟨r', m', t', C2, E2, (kS_E E2 (show kS (cn X) W r' H' D (sE q _ t' m') from k2)).imp ?_⟩
    rintro x H1 ⟨r1, m1, u, e1, C1, rfl, E1, k1⟩
    cases u with
    | false => exact iteF (k1 r1 H1 s' (Ext.refl _ _) C1 E1)
    | true =>
      refine iteT ⟨fun s2 H2 => ∃ r2 m2 t2, Ext r H r2 H2 ∧ Corr (cn X) r2 m2 H2 ∧ EnvR (cn X) r2 H2 t2 s2 ∧ kS (cn X) W r2 H2 D (sWhile q b k t2 m2), fun s2 H2 w => ⟨k, Nat.lt_succ_self _, w⟩, r1, m1, t', C1, E1, ?_⟩
      dsimp only at k1
      cases e7 : b t' m1 with
      | nx t7 m7 => rw [e7] at k1; exact fun r8 H8 s8 e8 C8 E8 => ⟨r8, m7, t7, (e2.trans e1).trans e8, C8, E8, k1.from e8⟩
      | ct t7 m7 => rw [e7] at k1; exact fun r8 H8 s8 e8 C8 E8 => ⟨r8, m7, t7, (e2.trans e1).trans e8, C8, E8, k1.from e8⟩
      | bk t7 m7 => rw [e7] at k1; exact k1
      | rt u7 m7 => rw [e7] at k1; exact k1
      | err x7 t7 m7 => rw [e7] at k1; exact k1
      | bad => rw [e7] at k1; exact k1
end
end Mi
set_option Elab.async false
set_option linter.all false
set_option maxRecDepth 100000
set_option maxHeartbeats 4000000
/-! Mi, part I: what is walked; list comprehensions. -/
namespace Mi
open PySem PySem.Spec PyProof.Rows L2
section
variable {X : Cx} {r : Gh} {H : Hp}
theorem jok_list {a : Addr} {xs : List V} {us : List U} (st : ∀ r' H', ExtW r H r' H' → SqL X.K H' a xs ∧ RUs (cn X) r' H' us xs) : JOk (cn X) r H (constIt us) (Itl X.K a) := by
  intro i r' m' H' e C
  obtain ⟨h1, h2⟩ := st r' H' e
  refine ⟨fun u hi hu => ?_, fun hi _ => ⟨xs, h1, h2.length ▸ hi⟩⟩
  obtain ⟨x, e1, e2⟩ := h2.get (i := i) hu
  refine ⟨⟨xs, x, h1, e1⟩, ?_⟩
  rintro y H'' ⟨rfl, hy⟩
  have := hy xs h1
  rw [e1] at this
  cases this
  exact ⟨Ext.refl _ _, C, e2⟩
theorem jok_tup {a : Addr} {xs : List V} {us : List U} (st : ∀ r' H', ExtW r H r' H' → SqT X.K H' a xs ∧ RUs (cn X) r' H' us xs) : JOk (cn X) r H (constIt us) (Itt X.K a) := by
  intro i r' m' H' e C
  obtain ⟨h1, h2⟩ := st r' H' e
  refine ⟨fun u hi hu => ?_, fun hi _ => ⟨xs, h1, h2.length ▸ hi⟩⟩
  obtain ⟨x, e1, e2⟩ := h2.get (i := i) hu
  refine ⟨⟨xs, x, h1, e1⟩, ?_⟩
  rintro y H'' ⟨rfl, hy⟩
  have := hy xs h1
  rw [e1] at this
  cases this
  exact ⟨Ext.refl _ _, C, e2⟩
theorem jok_ref {n : Nat} {a : Addr} {k : Nat} (ha : r.r[n]? = some a) : JOk (cn X) r H (refIt n k) (Itl X.K a) := by
  intro i r' m' H' e C
  have ha' := pre_get e.pre ha
  have key : ∀ us, m'[n]? = some (.lst us) → ∃ xs, SqL X.K H' a xs ∧ RUs (cn X) r' H' us xs := by
    intro us q
    obtain ⟨a', ho, h1, h2, h3⟩ := C.at_ n _ q
    rw [ha'] at h1
    cases h1
    cases h3 with | lst hs => exact ⟨_, SqL.of h2, hs⟩
  refine ⟨fun u hi hu => ?_, fun hi hf => ?_⟩
  · simp only [refIt] at hu
    cases q : m'[n]? with
    | none => rw [q] at hu; cases hu
    | some o =>
      rw [q] at hu
      cases o with
      | lst us =>
        dsimp only at hu
        by_cases hl : us.length = k
        · rw [if_pos hl] at hu
          obtain ⟨xs, h1, h2⟩ := key us q
          obtain ⟨x, e1, e2⟩ := h2.get (i := i) hu
          refine ⟨⟨xs, x, h1, e1⟩, ?_⟩
          rintro y H'' ⟨rfl, hy⟩
          have := hy xs h1
          rw [e1] at this
          cases this
          exact ⟨Ext.refl _ _, C, e2⟩
        · rw [if_neg hl] at hu; cases hu
      | _ => cases hu
  · simp only [refIt] at hf
    cases q : m'[n]? with
    | none => rw [q] at hf; cases hf
    | some o =>
      rw [q] at hf
      cases o with
      | lst us =>
        have hl : us.length = k := of_decide_eq_true hf
        obtain ⟨xs, h1, h2⟩ := key us q
        exact ⟨xs, h1, by rw [← h2.length, hl]; exact hi⟩
      | _ => cases hf
end
def signsU (x : Str) : List U := x.cps.toList.map fun k => .str ⟨#[k]⟩
def itOf (u : U) (m : MH) : Option (ItU × MH) := match u with
  | .tup us => some (constIt us, m)
  | .fl us => some (constIt us, m)
  | .cl us => some (constIt us, m)
  | .str x => some (constIt (signsU x), m)
  | .ref n => (match m[n]? with
    | some (.lst us) => some (refIt n us.length, m)
    | _ => none)
  | _ => none
def cIt (f : E1) : I1 := fun t m => (f t m).bind fun u m1 => ofO (itOf u m1)
section
variable {X : Cx} {W : WX} {tg l : Expr} {f : E1}
theorem fp_one {pins : List (Addr × Obj)} {σ : L2.St} {H : Hp} {s : Shared} (I : Inv X pins σ H s) : ∀ b ∈ [s.heap.objs.size], FpOk X pins H b := by
  intro b hb
  have e : b = s.heap.objs.size := by simpa using hb
  subst e
  exact I.fpOk (Nat.le_refl _) (I.hok.fresh (Nat.le_refl _))
theorem jok_str {r : Gh} {H : Hp} (x : Str) : JOk (cn X) r H (constIt (signsU x)) (Its x) := by
  intro i r' m' H' e C
  have len : (signsU x).length = x.cps.size := by unfold signsU; rw [List.length_map, Array.length_toList]
  refine ⟨fun u hi hu => ⟨by show i < x.cps.size; rw [← len]; exact hi, ?_⟩, fun hi _ => by show x.cps.size ≤ i; rw [← len]; exact hi⟩
  rintro y H'' ⟨rfl, k, hk, rfl⟩
  have : (signsU x)[i]? = some (.str ⟨#[k]⟩) := by
    unfold signsU
    rw [List.getElem?_map, Array.getElem?_toList, hk]
    rfl
  have hu' : (signsU x)[i]? = some u := hu
  rw [this] at hu'
  cases hu'
  exact ⟨Ext.refl _ _, C, .str _⟩
theorem pi_val (hl : PE X l (tE (cn X) W f)) : PI X tg l (tIt (cn X) W (cIt f)) := by
  refine ⟨fun pins s σ H R I ⟨r, m, t, C, E, k⟩ => ?_⟩
  refine thn (hl.run pins s σ H _ I ⟨r, m, t, C, E, kE.bind k⟩) fun v s1 ⟨x, H1, I1, rv, r1, m1, u, e1, C1, ru, k1⟩ => ?_
  have k2 := kE_ofO k1
  have lst : ∀ {a : Addr} {it : ItU}, v = .ref a → (∃ xs, SqL X.K H1 a xs) → kO (cn X) JOk r1 H1 R (some (it, m1)) → JOk (cn X) r1 H1 it (Itl X.K a) → wpAny (model X.prog X.w) X.A (pyIter v) (PIE X pins σ tg R) X.xe s1 := by
    rintro a it rfl ⟨xs, hq⟩ k3 jo
    obtain ⟨its, rv', p, hz⟩ := I1.list hq
    refine wpAny_pyIter_list p.isList ?_
    exact ⟨s1.heap.objs.size, [s1.heap.objs.size], _, _, H1, rfl, I1.kept (t' := s1.toks) fun b o e => Heap.get?_push_of_some _ e, turn_list a _, ⟨_, Heap.get?_push_size _ rfl, rfl, rfl⟩, fp_one I1, k3 r1 H1 _ (Ext.refl _ _) C1 jo⟩
  cases ru with
  | @tup us a xs q qs =>
    have hv : v = Value.ref a := rv
    subst hv
    obtain ⟨its, rv', p, hz⟩ := I1.tuple q.sq
    refine wpAny_pyIter_tuple (show s1.heap.IsTuple a its.toArray from p) ?_
    exact ⟨s1.heap.objs.size, [s1.heap.objs.size], _, _, H1, rfl, I1.kept (t' := s1.toks) fun b o e => Heap.get?_push_of_some _ e, turn_tuple a _, ⟨_, Heap.get?_push_size _ rfl, rfl, rfl⟩, fp_one I1,
      k2 r1 H1 _ (Ext.refl _ _) C1 (jok_tup fun r' H' e => ⟨(q.ext e).sq, qs.ext e⟩)⟩
  | @fl us a xs q1 q2 q3 qs => exact lst rv ⟨xs, SqL.of q3⟩ k2 (jok_list (fun r' H' e => ⟨SqL.of (e.keep _ _ q1 q2 q3).1, qs.ext e⟩))
  | @cl us a xs q qs => exact lst rv ⟨xs, q.sq⟩ k2 (jok_list (fun r' H' e => ⟨(q.ext e).sq, qs.ext e⟩))
  | @ref n a q =>
    cases e2 : m1[n]? with
    | none => simp only [itOf, e2] at k2; exact k2.elim
    | some o =>
      obtain ⟨a', ho, h1, h2, h3⟩ := C1.at_ n _ e2
      rw [q] at h1
      cases h1
      cases o with
      | lst us =>
        simp only [itOf, e2] at k2
        cases h3 with | lst hs => exact lst rv ⟨_, SqL.of h2⟩ k2 (jok_ref q)
      | _ => simp only [itOf, e2] at k2; exact k2.elim
  | str x =>
    obtain ⟨t', rfl⟩ := rv
    have q := k2 r1 H1 _ (Ext.refl _ _) C1 (jok_str x)
    cases ha : x.cps.all (· < 128)
    · exact wpAny_pyIter_wide ha (pi_one (tk := s1.toks) I1 _ (turn_str _ x t' "str_iterator" (.inr rfl)) ⟨_, Heap.get?_push_size _ rfl, rfl, rfl⟩ q)
    · exact wpAny_pyIter_ascii ha (pi_one (tk := s1.toks) I1 _ (turn_str _ x t' "str_ascii_iterator" (.inl rfl)) ⟨_, Heap.get?_push_size _ rfl, rfl, rfl⟩ q)
  | _ => exact k2.elim
end
/-! ### range -/
def rangeU (lo : Int) (n : Nat) : List U := (List.range n).map fun i => .int (lo + (i : Nat))
def rngBd (i : Int) : Bool := decide (-(2 ^ 60) ≤ i) && decide (i < 2 ^ 60)
def rngOf1 : List U → MH → Option (ItU × MH)
  | [.int j], m => if rngBd j = true then some (constIt (rangeU 0 j.toNat), m) else none
  | _, _ => none
def rngOf2 : List U → MH → Option (ItU × MH)
  | [.int i, .int j], m => if (rngBd i && rngBd j) = true then some (constIt (rangeU i (j - i).toNat), m) else none
  | _, _ => none
def cRng1 (a : Fn1 (List U)) : I1 := fun t m => (a t m).bind fun us m1 => ofO (rngOf1 us m1)
def cRng2 (a : Fn1 (List U)) : I1 := fun t m => (a t m).bind fun us m1 => ofO (rngOf2 us m1)
theorem rangeU_len (lo : Int) (n : Nat) : (rangeU lo n).length = n := by unfold rangeU; rw [List.length_map, List.length_range]
theorem rangeU_get (lo : Int) (n i : Nat) (h : i < n) : (rangeU lo n)[i]? = some (.int (lo + (i : Nat))) := by
  unfold rangeU
  rw [List.getElem?_map, List.getElem?_range h]
  rfl
section
variable {X : Cx} {W : WX} {tg : Expr} {p pos : Pos} {fa : Fn1 (List U)}
theorem jok_rng {r : Gh} {H : Hp} (lo : Int) (n : Nat) : JOk (cn X) r H (constIt (rangeU lo n)) (Itr lo n) := by
  intro i r' m' H' e C
  refine ⟨fun u hi hu => ?_, fun hi _ => by show n ≤ i; rw [← rangeU_len lo n]; exact hi⟩
  have hi' : i < n := by rw [← rangeU_len lo n]; exact hi
  refine ⟨hi', ?_⟩
  rintro y H'' ⟨rfl, rfl⟩
  have hu' : (rangeU lo n)[i]? = some u := hu
  rw [rangeU_get lo n i hi'] at hu'
  cases hu'
  exact ⟨Ext.refl _ _, C, .int _⟩
theorem bd {i : Int} (h : rngBd i = true) : -(2 ^ 62) ≤ i ∧ i < 2 ^ 62 := by
  unfold rngBd at h
  rw [Bool.and_eq_true] at h
  have a := of_decide_eq_true h.1
  have b := of_decide_eq_true h.2
  omega
theorem pi_rng1 {a : Expr} (hn : noStar a = true) (hg : Gl X "range") (hm : X.mg "range" = none) (ha : PA X [a] (tAr (cn X) W fa)) : PI X tg (.Call (.Name "range" p) [a] [] pos) (tIt (cn X) W (cRng1 fa)) := by
  refine ⟨fun pins s σ H R I ⟨r, m, t, C, E, k⟩ => (pi_range1 hg hm ha (star_cons hn)).run pins s σ H R I ⟨r, m, t, C, E, (kE.bind k).imp ?_⟩⟩
  rintro x H1 ⟨r1, m1, u, e1, C1, ru, k1⟩
  have k2 := kE_ofO k1
  unfold rngOf1 at k2
  split at k2
  · obtain ⟨v, rfl, q⟩ := ru.one
    cases q
    obtain ⟨hb, k2⟩ := k2.ite
    exact ⟨_, rfl, (bd hb).1, (bd hb).2, k2 r1 H1 _ (Ext.refl _ _) C1 (jok_rng _ _)⟩
  · exact k2.elim
theorem pi_rng2 {a b : Expr} (hn : noStar a = true) (hn2 : noStar b = true) (hg : Gl X "range") (hm : X.mg "range" = none) (ha : PA X [a, b] (tAr (cn X) W fa)) : PI X tg (.Call (.Name "range" p) [a, b] [] pos) (tIt (cn X) W (cRng2 fa)) := by
  refine ⟨fun pins s σ H R I ⟨r, m, t, C, E, k⟩ => (pi_range2 hg hm ha (by rw [star_cons hn, star_cons hn2]; rfl) (star_cons hn2)).run pins s σ H R I ⟨r, m, t, C, E, (kE.bind k).imp ?_⟩⟩
  rintro x H1 ⟨r1, m1, u, e1, C1, ru, k1⟩
  have k2 := kE_ofO k1
  unfold rngOf2 at k2
  split at k2
  · obtain ⟨v, y, rfl, q, q2⟩ := ru.two
    cases q; cases q2
    obtain ⟨hb, k2⟩ := k2.ite
    rw [Bool.and_eq_true] at hb
    exact ⟨_, _, rfl, ⟨(bd hb.1).1, (bd hb.1).2, (bd hb.2).1, (bd hb.2).2⟩, k2 r1 H1 _ (Ext.refl _ _) C1 (jok_rng _ _)⟩
  · exact k2.elim
end
/-! ### enumerate, zip, reversed -/
/-- the pairs of a list's places and items -/
def enumU (us : List U) : List U := (List.range us.length).zipWith (fun i u => .tup [.int (i : Nat), u]) us
def itEnum (u : U) (m : MH) : Option (ItU × MH) := match u with
  | .fl us => some (constIt (enumU us), m)
  | .cl us => some (constIt (enumU us), m)
  | .ref n => (match m[n]? with
    | some (.lst us) => some (⟨us.length, fun m i => ((refIt n us.length).get m i).map fun u => .tup [.int (i : Nat), u], (refIt n us.length).fin⟩, m)
    | _ => none)
  | _ => none
def one (us : List U) : Option U := match us with
  | [u] => some u
  | _ => none
def two (us : List U) : Option (U × U) := match us with
  | [u, w] => some (u, w)
  | _ => none
def cEnum (a : Fn1 (List U)) : I1 := fun t m => (a t m).bind fun us m1 => ofO ((one us).bind fun u => itEnum u m1)
theorem enumU_get (us : List U) (i : Nat) : (enumU us)[i]? = us[i]?.map fun u => .tup [.int (i : Nat), u] := by
  unfold enumU
  rw [List.getElem?_zipWith]
  by_cases h : i < us.length
  · rw [List.getElem?_range h]
    cases us[i]? <;> rfl
  · rw [List.getElem?_eq_none (by rw [List.length_range]; omega), List.getElem?_eq_none (by omega)]
    rfl
theorem enumU_len (us : List U) : (enumU us).length = us.length := by unfold enumU; rw [List.length_zipWith, List.length_range]; omega
section
variable {X : Cx} {W : WX} {tg : Expr} {p pos : Pos} {fa : Fn1 (List U)}
theorem pair_new {r : Gh} {m : MH} {H : Hp} {T : Addr} {u w : U} {x y : V} (C : Corr (cn X) r m H) (hT : H T = none) (ru : RU (cn X) r H u x) (rw' : RU (cn X) r H w y) :
    Ext r H r (upd H T (.tup [x, y])) ∧ Corr (cn X) r m (upd H T (.tup [x, y])) ∧ RU (cn X) r (upd H T (.tup [x, y])) (.tup [u, w]) (.ref T) := by
  obtain ⟨C1, e1, n1, n2⟩ := C.beside (o := .tup [x, y]) hT
  exact ⟨e1, C1, .tup (.inl ⟨n1, n2, Rd.of upd_same⟩) (.cons (ru.ext e1.w) (.cons (rw'.ext e1.w) .nil))⟩
theorem jok_enum {r : Gh} {H : Hp} {a : Addr} {xs : List V} {us : List U} (st : ∀ r' H', ExtW r H r' H' → SqL X.K H' a xs ∧ RUs (cn X) r' H' us xs) : JOk (cn X) r H (constIt (enumU us)) (Ite X.K a) := by
  intro i r' m' H' e C
  obtain ⟨h1, h2⟩ := st r' H' e
  refine ⟨fun u hi hu => ?_, fun hi _ => ⟨xs, h1, by rw [← h2.length, ← enumU_len us]; exact hi⟩⟩
  have hu' : (enumU us)[i]? = some u := hu
  rw [enumU_get, Option.map_eq_some_iff] at hu'
  obtain ⟨w, hw, rfl⟩ := hu'
  obtain ⟨x, e1, e2⟩ := h2.get hw
  refine ⟨⟨xs, x, h1, e1⟩, ?_⟩
  rintro y H'' ⟨T, z, rfl, hT, rfl, hz⟩
  have := hz xs h1
  rw [e1] at this
  cases this
  exact pair_new C hT (.int _) e2
theorem jok_enumR {r : Gh} {H : Hp} {n : Nat} {a : Addr} {k : Nat} (ha : r.r[n]? = some a) : JOk (cn X) r H ⟨k, fun m i => ((refIt n k).get m i).map fun u => .tup [.int (i : Nat), u], (refIt n k).fin⟩ (Ite X.K a) := by
  intro i r' m' H' e C
  have j := jok_ref (X := X) (H := H) (k := k) ha i r' m' H' e C
  refine ⟨fun u hi hu => ?_, fun hi hf => j.2 hi hf⟩
  have hu' : ((refIt n k).get m' i).map (fun u => U.tup [.int (i : Nat), u]) = some u := hu
  rw [Option.map_eq_some_iff] at hu'
  obtain ⟨w, hw, rfl⟩ := hu'
  obtain ⟨⟨xs, x, h1, e1⟩, q⟩ := j.1 w hi hw
  refine ⟨⟨xs, x, h1, e1⟩, ?_⟩
  rintro y H'' ⟨T, z, rfl, hT, rfl, hz⟩
  exact pair_new C hT (.int _) (q z H' ⟨rfl, hz⟩).2.2
theorem pi_enumU {e : Expr} {elts : List Expr} {kk : Nat} {tpos : Pos} (hn : noStar e = true) (hg : Gl X "enumerate") (hm : X.mg "enumerate" = none) (ha : PA X [e] (tAr (cn X) W fa)) : PI X (.Tuple elts kk tpos) (.Call (.Name "enumerate" p) [e] [] pos) (tIt (cn X) W (cEnum fa)) := by
  refine ⟨fun pins s σ H R I ⟨r, m, t, C, E, k⟩ => (pi_enum hg hm ha (star_cons hn)).run pins s σ H R I ⟨r, m, t, C, E, (kE.bind k).imp ?_⟩⟩
  rintro x H1 ⟨r1, m1, us, e1, C1, ru, k1⟩
  have k2 := kE_ofO k1
  cases e2 : one us with
  | none => rw [e2] at k2; exact k2.elim
  | some u =>
    rw [e2, Option.bind_some] at k2
    have hus : us = [u] := by
      unfold one at e2
      split at e2
      · cases e2; rfl
      · cases e2
    subst hus
    obtain ⟨v, rfl, q⟩ := ru.one
    cases q with
    | fl q1 q2 q3 qs => exact ⟨_, _, rfl, SqL.of q3, k2 r1 H1 _ (Ext.refl _ _) C1 (jok_enum fun r' H' e => ⟨SqL.of (e.keep _ _ q1 q2 q3).1, qs.ext e⟩)⟩
    | cl q qs => exact ⟨_, _, rfl, q.sq, k2 r1 H1 _ (Ext.refl _ _) C1 (jok_enum fun r' H' e => ⟨(q.ext e).sq, qs.ext e⟩)⟩
    | @ref n a q =>
      cases e3 : m1[n]? with
      | none => simp only [itEnum, e3] at k2; exact k2.elim
      | some o =>
        obtain ⟨a', ho, h1, h2, h3⟩ := C1.at_ n _ e3
        rw [q] at h1
        cases h1
        cases o with
        | lst us =>
          simp only [itEnum, e3] at k2
          cases h3 with | lst hs => exact ⟨_, _, rfl, SqL.of h2, k2 r1 H1 _ (Ext.refl _ _) C1 (jok_enumR q)⟩
        | _ => simp only [itEnum, e3] at k2; exact k2.elim
    | _ => exact k2.elim
end
end Mi
set_option Elab.async false
set_option linter.all false
set_option maxRecDepth 100000
set_option maxHeartbeats 4000000
/-! Mi, part J: list comprehensions. -/
namespace Mi
open PySem PySem.Spec PyProof.Rows L2
def wipeU (t : Env1) : List Nat → Env1
  | [] => t
  | v :: vs => (wipeU t vs).set v none
/-- no exception is let out -/
abbrev W0 : WX := fun _ _ _ _ => False
def cYes : Fn1 Bool := fun _ m => .ok true m
/-- the turns of a list comprehension -/
def lcI (it : ItU) (g : G1) (q : Fn1 Bool) (e : E1) (t0 : Env1) : Nat → Nat → List U → MH → Option (List U × MH)
  | 0, _, acc, m => if it.fin m = true then some (acc, m) else none
  | k + 1, i, acc, m => (it.get m i).bind fun u => (g u t0 m).bind fun p => match q p.1 p.2 with
    | .ok true m2 => (match e p.1 m2 with
      | .ok w m3 => lcI it g q e t0 k (i + 1) (acc ++ [w]) m3
      | _ => none)
    | .ok false m2 => lcI it g q e t0 k (i + 1) acc m2
    | _ => none
/-- the new list: unchanging, or one of the own heap -/
def flP (hp : Bool) (p : List U × MH) : U × MH := match hp with
  | true => (.ref p.2.length, p.2 ++ [.lst p.1])
  | false => (.fl p.1, p.2)
theorem Corr.adopt {c : Cn} {H : Hp} {m : MH} {D : Addr} {z R : List Addr} {ho : HO} {o : MO} (C : Corr c ⟨R, D :: z⟩ m H) (n2 : D ∉ z) (h : H D = Option.some ho) (q : RO c ⟨R, D :: z⟩ H o ho) :
    Corr c ⟨R ++ [D], z⟩ (m ++ [o]) H ∧ ExtW ⟨R, D :: z⟩ H ⟨R ++ [D], z⟩ H ∧ (R ++ [D])[m.length]? = Option.some D := by
  have n1 : D ∉ R := (C.res D List.mem_cons_self).1
  have e : ExtW ⟨R, D :: z⟩ H ⟨R ++ [D], z⟩ H := ⟨List.prefix_append R [D], fun b o' hb hz eb => ⟨eb, by
    show b ∉ R ++ [D]
    rw [List.mem_append]; rintro (x | x)
    · exact hb x
    · exact hz (by rw [List.mem_singleton.mp x]; exact List.mem_cons_self), fun x => hz (List.mem_cons_of_mem _ x)⟩⟩
  have ln : (R ++ [D])[m.length]? = Option.some D := by
    have : R.length = m.length := C.len
    rw [← this, List.getElem?_append_right (Nat.le_refl _), Nat.sub_self]; rfl
  refine ⟨⟨?_, ?_, fun i x hx => ?_, fun b hb => ⟨?_, (C.res b (List.mem_cons_of_mem _ hb)).2⟩⟩, e, ln⟩
  · have : R.length = m.length := C.len
    show (R ++ [D]).length = _
    rw [List.length_append, List.length_append, this]; rfl
  · show (R ++ [D]).Nodup
    rw [List.nodup_append]
    exact ⟨C.nd, (List.nodup_cons.mpr ⟨List.not_mem_nil, List.nodup_nil⟩), fun a ha b hb => by rw [List.mem_singleton.mp hb]; rintro rfl; exact n1 ha⟩
  · by_cases hi : i < m.length
    · rw [List.getElem?_append_left hi] at hx
      obtain ⟨a, ho', h1, h2, h3⟩ := C.at_ i x hx
      exact ⟨a, ho', pre_get e.pre h1, h2, h3.ext e⟩
    · have : i < (m ++ [o]).length := (List.getElem?_eq_some_iff.mp hx).1
      rw [List.length_append] at this
      have hi' : i = m.length := by simp at this; omega
      subst hi'
      rw [List.getElem?_append_right (Nat.le_refl _), Nat.sub_self] at hx
      cases hx
      exact ⟨D, ho, ln, h, q.ext e⟩
  · show b ∉ R ++ [D]
    rw [List.mem_append]; rintro (x | x)
    · exact (C.res b (List.mem_cons_of_mem _ hb)).1 x
    · exact n2 (List.mem_singleton.mp x ▸ hb)
def cLc (hp : Bool) (f : I1) (g : G1) (q : Fn1 Bool) (e : E1) (own : List Nat) : E1 := fun t m => (f t m).bind fun it m1 => ofO (if lineOk it.len = true then (lcI it g q e (wipeU t own) it.len 0 [] m1).map (flP hp) else none)
section
variable {c : Cn} {r : Gh} {H : Hp} {t : Env1} {s s' : L2.St}
theorem EnvR.wipe (E : EnvR c r H t s) : ∀ vs : List Nat, EnvR c r H (wipeU t vs) (L2.wipe s vs)
  | [] => E
  | v :: vs => (EnvR.wipe E vs).unset v
theorem wipe_mem : ∀ {vs : List Nat} {i : Nat}, i ∈ vs → i < s.length → (L2.wipe s vs)[i]? = some none
  | v :: vs, i, h, hl => by
    show ((L2.wipe s vs).set v none)[i]? = some none
    by_cases e : v = i
    · subst e
      exact List.getElem?_set_self (by rw [wipe_length]; exact hl)
    · rw [List.getElem?_set_ne e]
      exact wipe_mem ((List.mem_cons.mp h).resolve_left (fun z => e z.symm)) hl
theorem wipe_eq {vs : List Nat} (hl : s'.length = s.length) (h : ∀ i, i ∉ vs → s'[i]? = s[i]?) : L2.wipe s' vs = L2.wipe s vs := by
  apply List.ext_getElem?
  intro i
  by_cases hi : i ∈ vs
  · by_cases hb : i < s.length
    · rw [wipe_mem hi hb, wipe_mem hi (by rw [hl]; exact hb)]
    · rw [List.getElem?_eq_none (by rw [wipe_length, hl]; omega), List.getElem?_eq_none (by rw [wipe_length]; omega)]
  · rw [wipe_out hi, wipe_out hi, h i hi]
end
section
variable {X : Cx} {W : WX} {tg iter elt : Expr} {ifs : List Expr} {f : I1} {g : G1} {q : Fn1 Bool} {e : E1} {scope : Scope} {own : List (Str × Nat)} {pos : Pos} {L : List Nat} {hp : Bool}
theorem mpts_nil {c : Cn} {W : WX} : PTs X [] (tTs c W cYes) := ⟨fun pins s σ H Q I ⟨r, m, t, C, E, k⟩ => pts_nil.run pins s σ H Q I (kE.ok k C rfl)⟩
theorem lc_core' {J : It} {it : ItU} {r1 : Gh} {m1 : MH} {H1 : Hp} {t : Env1} {σ : L2.St} {vs : List Nat} {Q : VK} (hL : ∀ i ∈ L, i ∈ vs) (jo : JOk (cn X) r1 H1 it J) (C1 : Corr (cn X) r1 m1 H1) (E1 : EnvR (cn X) r1 H1 t σ)
    (k : kO (cn X) RU r1 H1 Q (if lineOk it.len = true then (lcI it g q e (wipeU t vs) it.len 0 [] m1).map (flP hp) else none)) (D : Addr) (hD : H1 D = none) :
    ∃ Wv : Nat → Nat → Hp → Prop, (∃ m, Wv 0 m (upd H1 D (.lst []))) ∧ ∀ i m H, Wv i m H →
      (J.stop i H ∧ Q (.ref D) H) ∨ (J.go i H ∧ ∃ Nx : Hp → Prop, (∀ H', Nx H' → ∃ m', m' < m ∧ Wv (i + 1) m' H') ∧ ∀ x H', J.yld i H x H' → tGt (cn X) L g x (L2.wipe σ vs) H' fun σ2 H2 => L2.wipe σ2 vs = L2.wipe σ vs ∧ tTs (cn X) W0 q σ2 H2 fun b H3 =>
        if b = true then tE (cn X) W0 e σ2 H3 fun y H4 => ∃ acc, H4 D = some (.lst acc) ∧ acc.length < sizeLine ∧ Nx (upd H4 D (.lst (acc ++ [y]))) else Nx H3) := by
  obtain ⟨hlen, k⟩ : lineOk it.len = true ∧ kO (cn X) RU r1 H1 Q ((lcI it g q e (wipeU t vs) it.len 0 [] m1).map (flP hp)) := by
    revert k
    by_cases h : lineOk it.len = true
    · rw [if_pos h]; exact fun k => ⟨h, k⟩
    · rw [if_neg h]; exact fun k => k.elim
  have hlen := lineOk_of hlen
  obtain ⟨nD, nDz⟩ := C1.free hD
  obtain ⟨C2, e2⟩ := C1.reserve (o := .lst []) hD
  refine ⟨fun i k H' => i + k = it.len ∧ ∃ r' m' acc ys, ExtW r1 H1 r' H' ∧ r'.z = D :: r1.z ∧ (∀ b ∈ r1.z, H' b = H1 b) ∧ Corr (cn X) r' m' H' ∧ RUs (cn X) r' H' acc ys ∧ H' D = some (.lst ys) ∧ acc.length ≤ i ∧
    kO (cn X) RU r1 H1 Q ((lcI it g q e (wipeU t vs) k i acc m').map (flP hp)), ⟨it.len, Nat.zero_add _, _, m1, [], [], e2, rfl, fun b hb => upd_ne (show b ≠ D by rintro rfl; exact nDz hb), C2, .nil, upd_same, Nat.le_refl _, k⟩, ?_⟩
  rintro i k H' ⟨hk, r', m', acc, ys, eW, hz, hres, C', R', hDy, hacc, kk⟩
  have jj := jo i r' m' H' eW C'
  cases k with
  | zero =>
    refine .inl ?_
    unfold lcI at kk
    by_cases hf : it.fin m' = true
    · rw [if_pos hf] at kk
      refine ⟨jj.2 (by omega) hf, ?_⟩
      obtain ⟨R, Z⟩ := r'
      dsimp only at hz
      subst hz
      obtain ⟨C3, e3, n3⟩ := C'.release
      cases hp with
      | false => exact kk ⟨R, r1.z⟩ H' (.ref D) ⟨eW.trans e3, rfl, hres⟩ C3 (.fl n3 nDz hDy (R'.ext e3))
      | true =>
        obtain ⟨C5, e5, g5⟩ := C'.adopt nDz hDy (RO.lst R')
        exact kk ⟨R ++ [D], r1.z⟩ H' (.ref D) ⟨eW.trans e5, rfl, hres⟩ C5 (.ref g5)
    · rw [if_neg hf] at kk; exact kk.elim
  | succ k =>
    refine .inr ?_
    unfold lcI at kk
    cases e3 : it.get m' i with
    | none => rw [e3] at kk; exact kk.elim
    | some u =>
      rw [e3, Option.bind_some] at kk
      obtain ⟨go, yl⟩ := jj.1 u (by omega) e3
      refine ⟨go, fun H2 => (i + 1) + k = it.len ∧ ∃ r' m' acc ys, ExtW r1 H1 r' H2 ∧ r'.z = D :: r1.z ∧ (∀ b ∈ r1.z, H2 b = H1 b) ∧ Corr (cn X) r' m' H2 ∧ RUs (cn X) r' H2 acc ys ∧ H2 D = some (.lst ys) ∧ acc.length ≤ i + 1 ∧
        kO (cn X) RU r1 H1 Q ((lcI it g q e (wipeU t vs) k (i + 1) acc m').map (flP hp)), fun H2 w => ⟨k, Nat.lt_succ_self _, w⟩, ?_⟩
      intro x H3 hy
      obtain ⟨e4, C4, ru⟩ := yl x H3 hy
      have ew4 := eW.trans e4.w
      refine ⟨r', m', wipeU t vs, u, C4, (E1.ext ew4).wipe vs, ru, ?_⟩
      cases e5 : g u (wipeU t vs) m' with
      | none => rw [e5] at kk; exact kk.elim
      | some p =>
        obtain ⟨t6, m6⟩ := p
        rw [e5, Option.bind_some] at kk
        dsimp only at kk
        intro r6 H6 s6 e6 C6 E6
        have e46 := e4.trans e6
        refine ⟨wipe_eq (s := L2.wipe σ vs) E6.2.1 (fun j hj => E6.2.2 j fun z => hj (hL j z)) |>.trans (wipe_eq (wipe_length σ vs) fun j hj => wipe_out hj), r6, m6, t6, C6, E6.1, ?_⟩
        cases e7 : q t6 m6 with
        | err x7 m7 => rw [e7] at kk; exact kk.elim
        | bad => rw [e7] at kk; exact kk.elim
        | ok b7 m7 =>
          rw [e7] at kk
          rintro r8 H8 b8 e8 C8 rfl
          have e48 := e46.trans e8
          have zz : ∀ {r9 : Gh} {H9 : Hp}, Ext r' H' r9 H9 → r9.z = D :: r1.z ∧ (∀ b ∈ r1.z, H9 b = H1 b) ∧ H9 D = some (.lst ys) := fun e9 =>
            ⟨e9.z.trans hz, fun b hb => (e9.res b (by rw [hz]; exact List.mem_cons_of_mem _ hb)).trans (hres b hb), (e9.res D (by rw [hz]; exact List.mem_cons_self)).trans hDy⟩
          cases b7 with
          | false =>
            dsimp only at kk
            obtain ⟨z1, z2, z3⟩ := zz e48
            exact iteF ⟨by omega, r8, m7, acc, ys, eW.trans e48.w, z1, z2, C8, R'.ext e48.w, z3, Nat.le_succ_of_le hacc, kk⟩
          | true =>
            dsimp only at kk
            refine iteT ⟨r8, m7, t6, C8, E6.1.ext e8.w, ?_⟩
            cases e9 : e t6 m7 with
            | err x9 m9 => rw [e9] at kk; exact kk.elim
            | bad => rw [e9] at kk; exact kk.elim
            | ok w9 m9 =>
              rw [e9] at kk
              intro ra Ha y ea Ca ry
              have e4a := e48.trans ea
              obtain ⟨z1, z2, z3⟩ := zz e4a
              have ly : ys.length < sizeLine := by rw [← R'.length]; omega
              refine ⟨ys, z3, ly, by omega, ?_⟩
              obtain ⟨R, Z⟩ := ra
              dsimp only at z1
              subst z1
              obtain ⟨Cb, eb⟩ := Ca.rewrite (o := .lst (ys ++ [y]))
              exact ⟨⟨R, D :: r1.z⟩, m9, acc ++ [w9], ys ++ [y], (eW.trans e4a.w).trans eb, rfl, fun b hb => (upd_ne (show b ≠ D by rintro rfl; exact nDz hb)).trans (z2 b hb), Cb, (((R'.ext e4a.w).app (.cons ry .nil))).ext eb, upd_same,
                by rw [List.length_append]; exact Nat.succ_le_succ hacc, kk⟩
theorem mi_lc (hc : X.calm = true) (hN : X.N.Nodup) (hL : ∀ i ∈ L, i ∈ own.map (·.2)) (hi : PI X tg iter (tIt (cn X) W f)) (ok : BlkOk X.N X.env.scope scope own)
    (hg : ∀ (s : Shared) (H : Hp) (C : Addr) (cl : List (Str × Addr)) (fp : List Addr), PG (X.blk s H scope (compEnvC scope cl C X.env) fp) tg (tGt (cn X) L g)) (ht : ∀ (s : Shared) (H : Hp) (C : Addr) (cl : List (Str × Addr)) (fp : List Addr), PTs (X.blk s H scope (compEnvC scope cl C X.env) fp) ifs (tTs (cn X) W0 q))
    (he : ∀ (s : Shared) (H : Hp) (C : Addr) (cl : List (Str × Addr)) (fp : List Addr), PE (X.blk s H scope (compEnvC scope cl C X.env) fp) elt (tE (cn X) W0 e)) (hs : ∀ x, foldedSetIterable iter X.env x = pure x) :
    PE X (.ListComp elt [⟨tg, iter, ifs, 0⟩] scope pos) (tE (cn X) W (cLc hp f g q e (own.map (·.2)))) := by
  refine (pe_lc hc hN hi ok hg ht he hs).weak fun s H Q ⟨r, m, t, C, E, k⟩ => ⟨r, m, t, C, E, (kE.bind k).imp ?_⟩
  rintro J H1 ⟨r1, m1, it, e1, C1, jo, k1⟩
  exact fun D hD => lc_core' hL jo C1 (E.ext e1.w) (kE_ofO k1) D hD
/-- name = [..] on one line -/
theorem ms_setLc {i : Nat} {y : Str} {py spos : Pos} (hc : X.calm = true) (hN : X.N.Nodup) (hy : X.N[i]? = some y) (hyl : X.env.scope.names.lookup y = some .local) (hsw : swapsWith (.ListComp elt [⟨tg, iter, ifs, 0⟩] scope pos) (some (.Name y py)) spos.line X.env = pure true)
    (hL : ∀ i ∈ L, i ∈ own.map (·.2)) (hi : PI X tg iter (tIt (cn X) W f)) (ok : BlkOk X.N X.env.scope scope own)
    (hg : ∀ (s : Shared) (H : Hp) (C : Addr) (cl : List (Str × Addr)) (fp : List Addr), PG (X.blk s H scope (compEnvC scope cl C X.env) fp) tg (tGt (cn X) L g)) (ht : ∀ (s : Shared) (H : Hp) (C : Addr) (cl : List (Str × Addr)) (fp : List Addr), PTs (X.blk s H scope (compEnvC scope cl C X.env) fp) ifs (tTs (cn X) W0 q))
    (he : ∀ (s : Shared) (H : Hp) (C : Addr) (cl : List (Str × Addr)) (fp : List Addr), PE (X.blk s H scope (compEnvC scope cl C X.env) fp) elt (tE (cn X) W0 e)) (hs : ∀ x, foldedSetIterable iter X.env x = pure x) :
    PS X (.Assign [.Name y py] (.ListComp elt [⟨tg, iter, ifs, 0⟩] scope pos) spos) (tS (cn X) W (sAsg (cLc hp f g q e (own.map (·.2))) (gName i))) := by
  refine (ps_setLc hc hN hy hyl hsw hi ok hg ht he hs).weak fun D s H ⟨r, m, t, C, E, k⟩ => ?_
  have k' : kE (cn X) RU W r H s (fun v H1 => D.nx (s.set i (some v)) H1) (cLc hp f g q e (own.map (·.2)) t m) := by
    refine (kS_E E k).imp ?_
    rintro x H1 ⟨r1, m1, u, e1, C1, ru, E1, k1⟩
    exact k1 r1 H1 _ (Ext.refl _ _) C1 (E1.set ru i)
  refine ⟨r, m, t, C, E, (kE.bind k').imp ?_⟩
  rintro J H1 ⟨r1, m1, it, e1, C1, jo, k1⟩
  exact fun Dd hD => lc_core' (Q := fun v H1 => D.nx (s.set i (some v)) H1) hL jo C1 (E.ext e1.w) (kE_ofO k1) Dd hD
end
end Mi
set_option Elab.async false
set_option linter.all false
set_option maxRecDepth 100000
set_option maxHeartbeats 4000000
/-! Mi, part K: methods, attributes, stores. -/
namespace Mi
open PySem PySem.Spec PyProof.Rows L2
/-! ### methods of built-in types -/
abbrev MU := U → List U → MH → Option (U × MH)
def MtU (X : Cx) (id : String) (phi : MU) : Prop := ∀ (pins : List (Addr × Obj)) (s : Shared) (σ : L2.St) (H : Hp) (x : V) (xs : List V) (v : Value) (us : List Value) (Q : VK), Inv X pins σ H s → RelV x v → Vals xs us →
  (∃ r m u ws, Corr (cn X) r m H ∧ RU (cn X) r H u x ∧ RUs (cn X) r H ws xs ∧ kO (cn X) RU r H Q (phi u ws m)) → wpAny (model X.prog X.w) X.A (call (.builtin id) (v :: us)) (EP X pins σ Q) X.xe s
def lstAt (n : Nat) (m : MH) : Option (List U) := match m[n]? with
  | some (.lst us) => some us
  | _ => none
def meAppend : MU
  | .ref n, [u], m => (lstAt n m).bind fun us => if lineOk (us.length + 1) = true then some (.non, m.set n (.lst (us ++ [u]))) else none
  | _, _, _ => none
def mePop : MU
  | .ref n, [.int i], m => (lstAt n m).bind fun us => (ixN us.length i).bind fun j => (us[j]?).map fun u => (u, m.set n (.lst (us.eraseIdx j)))
  | .ref n, [], m => (lstAt n m).bind fun us => (us[us.length - 1]?).map fun u => (u, m.set n (.lst us.dropLast))
  | _, _, _ => none
def meExtend : MU
  | .ref n, [w], m => (lstAt n m).bind fun us => (seqW w m).bind fun ws => if lineOk (us.length + ws.length) = true then some (.non, m.set n (.lst (us ++ ws))) else none
  | _, _, _ => none
def meJoin : MU
  | .str a, [w], m => (itemsU w m).bind fun us => (strsOf us).bind fun ys => if decide ((ys.map (·.length)).sum + ys.length * a.length ≤ 16777216) = true then some (.str (Txt.join a ys), m) else none
  | _, _, _ => none
def meUpper : MU
  | .str a, [], m => if decide (a.length ≤ 5592405) = true then some (.str (Txt.upper a), m) else none
  | _, _, _ => none
def meSplit : MU
  | .str a, [.str b], m => if (!(b.length == 0) && lineOk (a.length + 2)) = true then mkFl ((Txt.split a b).map U.str) m else none
  | _, _, _ => none
theorem lstAt_ok {c : Cn} {r : Gh} {H : Hp} {m : MH} (C : Corr c r m H) {n : Nat} {v : V} {us : List U} (ru : RU c r H (.ref n) v) (e : lstAt n m = some us) : ∃ a xs, v = .ref a ∧ r.r[n]? = some a ∧ H a = some (.lst xs) ∧ RUs c r H us xs := by
  cases ru with
  | ref h =>
    unfold lstAt at e
    cases q : m[n]? with
    | none => rw [q] at e; cases e
    | some o =>
      obtain ⟨a', ho, h1, h2, h3⟩ := C.at_ n _ q
      rw [h] at h1
      cases h1
      rw [q] at e
      cases o with
      | lst ws => cases e; cases h3 with | lst hs => exact ⟨_, _, rfl, h, h2, hs⟩
      | _ => cases e
theorem strs_all {c : Cn} {r : Gh} {H : Hp} : ∀ ys : List Str, RUs c r H (ys.map U.str) (ys.map V.str)
  | [] => .nil
  | y :: ys => .cons (.str y) (strs_all ys)
section
variable {X : Cx}
theorem me_append : MtU X "list.append" meAppend := by
  intro pins s σ H x xs v us Q I rx rs h
  obtain ⟨r, m, u, ws, C, ru, rw', k⟩ := h
  unfold meAppend at k
  split at k
  · rename_i n w
    obtain ⟨y, rfl, ry⟩ := rw'.one
    cases e : lstAt n m with
    | none => rw [e] at k; exact k.elim
    | some as =>
      rw [e, Option.bind_some] at k
      obtain ⟨a, zs, rfl, h1, h2, h3⟩ := lstAt_ok C ru e
      obtain ⟨hb, k⟩ := k.ite
      have hl := lineOk_of hb
      obtain ⟨C1, e1⟩ := C.put (o := .lst (as ++ [w])) (ho := .lst (zs ++ [y])) h1 (.lst (h3.app (.cons ry .nil)))
      exact mt_append pins s σ H _ _ v us Q I rx rs ⟨a, zs, y, rfl, rfl, h2, by rw [← h3.length]; exact hl, k r _ .non e1 C1 .non⟩
  · exact k.elim
theorem me_pop : MtU X "list.pop" mePop := by
  intro pins s σ H x xs v us Q I rx rs h
  obtain ⟨r, m, u, ws, C, ru, rw', k⟩ := h
  unfold mePop at k
  split at k
  · rename_i n i
    obtain ⟨y, rfl, ry⟩ := rw'.one
    cases ry
    cases e : lstAt n m with
    | none => rw [e] at k; exact k.elim
    | some as =>
      rw [e, Option.bind_some] at k
      obtain ⟨a, zs, rfl, h1, h2, h3⟩ := lstAt_ok C ru e
      cases e2 : ixN as.length i with
      | none => rw [e2] at k; exact k.elim
      | some j =>
        rw [e2, Option.bind_some] at k
        cases e3 : as[j]? with
        | none => rw [e3] at k; exact k.elim
        | some w =>
          rw [e3] at k
          obtain ⟨z, e4, e5⟩ := h3.get e3
          rw [h3.length] at e2
          obtain ⟨g1, g2, g3, g4⟩ := ixN_seq e2
          obtain ⟨C1, e1⟩ := C.put (o := .lst (as.eraseIdx j)) (ho := .lst (zs.eraseIdx j)) h1 (.lst (h3.erase j))
          have hz := (I.list (SqL.of h2 (K := X.K))).choose_spec.2.2
          have hln := line63
          exact mt_popAt pins s σ H _ _ v us Q I rx rs ⟨a, zs, i, j, z, rfl, rfl, h2, by omega, by omega, g1, e4, k r _ z e1 C1 (e5.ext e1.w)⟩
  · rename_i n
    cases rw'
    cases e : lstAt n m with
    | none => rw [e] at k; exact k.elim
    | some as =>
      rw [e, Option.bind_some] at k
      obtain ⟨a, zs, rfl, h1, h2, h3⟩ := lstAt_ok C ru e
      cases e3 : as[as.length - 1]? with
      | none => rw [e3] at k; exact k.elim
      | some w =>
        rw [e3] at k
        obtain ⟨z, e4, e5⟩ := h3.get e3
        rw [h3.length] at e4
        have hd : RUs (cn X) r H as.dropLast zs.dropLast := by
          rw [List.dropLast_eq_take, List.dropLast_eq_take, ← h3.length]
          exact h3.take _
        obtain ⟨C1, e1⟩ := C.put (o := .lst as.dropLast) (ho := .lst zs.dropLast) h1 (.lst hd)
        exact mt_pop pins s σ H _ _ v us Q I rx rs ⟨a, zs, z, rfl, rfl, h2, e4, k r _ z e1 C1 (e5.ext e1.w)⟩
  · exact k.elim
theorem me_extend : MtU X "list.extend" meExtend := by
  intro pins s σ H x xs v us Q I rx rs h
  obtain ⟨r, m, u, ws, C, ru, rw', k⟩ := h
  unfold meExtend at k
  split at k
  · rename_i n w
    obtain ⟨y, rfl, ry⟩ := rw'.one
    cases e : lstAt n m with
    | none => rw [e] at k; exact k.elim
    | some as =>
      rw [e, Option.bind_some] at k
      obtain ⟨a, zs, rfl, h1, h2, h3⟩ := lstAt_ok C ru e
      cases e2 : seqW w m with
      | none => rw [e2] at k; exact k.elim
      | some bs =>
        rw [e2, Option.bind_some] at k
        obtain ⟨b, ys, rfl, h4, h5⟩ := seqW_ok C ry e2
        obtain ⟨hb, k⟩ := k.ite
        have hl := lineOk_of hb
        obtain ⟨C1, e1⟩ := C.put (o := .lst (as ++ bs)) (ho := .lst (zs ++ ys)) h1 (.lst (h3.app h5))
        exact mt_extend pins s σ H _ _ v us Q I rx rs ⟨a, b, zs, ys, rfl, rfl, h2, h4, by rw [← h3.length, ← h5.length]; exact hl, k r _ .non e1 C1 .non⟩
  · exact k.elim
theorem me_join : MtU X "str.join" meJoin := by
  intro pins s σ H x xs v us Q I rx rs h
  obtain ⟨r, m, u, ws, C, ru, rw', k⟩ := h
  unfold meJoin at k
  split at k
  · rename_i a w
    obtain ⟨y, rfl, ry⟩ := rw'.one
    cases ru
    cases e : itemsU w m with
    | none => rw [e] at k; exact k.elim
    | some as =>
      rw [e, Option.bind_some] at k
      cases e2 : strsOf as with
      | none => rw [e2] at k; exact k.elim
      | some ys =>
        rw [e2, Option.bind_some] at k
        obtain ⟨hb, k⟩ := k.ite
        have hq := k.get C (.str _)
        have lists : seqL w m = some as → wpAny (model X.prog X.w) X.A (call (.builtin "str.join") (v :: us)) (EP X pins σ Q) X.xe s := by
          intro e3
          obtain ⟨l, zs, rfl, h1, h2⟩ := seqL_ok C ry e3
          have := strsOf_ok h2 e2
          subst this
          exact mt_join pins s σ H _ _ v us Q I rx rs ⟨_, _, ys, rfl, rfl, .inl h1, of_decide_eq_true hb, hq⟩
        cases w with
        | tup as' =>
          cases e
          cases ry with
          | tup q qs =>
            have := strsOf_ok qs e2
            subst this
            exact mt_join pins s σ H _ _ v us Q I rx rs ⟨_, _, ys, rfl, rfl, .inr q.sq, of_decide_eq_true hb, hq⟩
        | _ => exact lists e
  · exact k.elim
theorem me_upper : MtU X "str.upper" meUpper := by
  intro pins s σ H x xs v us Q I rx rs h
  obtain ⟨r, m, u, ws, C, ru, rw', k⟩ := h
  unfold meUpper at k
  split at k
  · cases ru
    cases rw'
    obtain ⟨hb, k⟩ := k.ite
    exact mt_upper pins s σ H _ _ v us Q I rx rs ⟨_, rfl, rfl, of_decide_eq_true hb, k.get C (.str _)⟩
  · exact k.elim
theorem me_split : MtU X "str.split" meSplit := by
  intro pins s σ H x xs v us Q I rx rs h
  obtain ⟨r, m, u, ws, C, ru, rw', k⟩ := h
  unfold meSplit at k
  split at k
  · cases ru
    obtain ⟨y, rfl, ry⟩ := rw'.one
    cases ry
    rename_i a b
    by_cases hb : (!(b.length == 0) && lineOk (a.length + 2)) = true
    · rw [if_pos hb] at k
      rw [Bool.and_eq_true] at hb
      have h0 : (b.length == 0) = false := by
        have := hb.1
        cases q : (b.length == 0) with
        | false => rfl
        | true => rw [q] at this; cases this
      exact mt_split pins s σ H _ _ v us Q I rx rs ⟨_, _, rfl, rfl, h0, lineOk_of hb.2, (ko_fl C (strs_all _) k).2⟩
    · rw [if_neg hb] at k; exact k.elim
  · exact k.elim
end
end Mi
set_option Elab.async false
set_option linter.all false
set_option maxRecDepth 100000
set_option maxHeartbeats 4000000
/-! Mi, part L: what a run leans on (Tab); method calls; attributes; stores. -/
namespace Mi
open PySem PySem.Spec PyProof.Rows L2
abbrev FKey := Str × Option Str
/-- what a def, a class, a module's name is -/
structure Tab where
  call : FKey → List U → MH → Out U
  plan : FKey → Nat → List Str → Option (List U → List U → List U)
  isDef : Str → Bool
  isCls : Str → Bool
  meth : Str → Str → Bool
  fld : Str → Str → Bool
  con : Str → Option U
  glo : Str → Bool
  free : Str → Bool
  exc : Str → Bool
  sub : Str → Str → Option Bool
  isa : Str → U → Option Bool
  fuel : Nat
  heapAt : Pos → Bool
/-- the class that a value names -/
def clV (mg : Str → Option Value) : U → Value → Prop
  | .glo y, v => mg y = some v
  | .ty n, v => v = .type n
  | _, _ => False
structure TabOk (T : Tab) (P : Program) (w : World) (K : PySem.W.Frag) (mg : Str → Option Value) (base : Heap) (k : Nat) : Prop where
  def_ : ∀ x, T.isDef x = true → ∃ f fd ps, mg x = some (.ref f) ∧ PySem.W.keepIn K (.ref f) = true ∧ FnOk P w K mg base (L2.CX P w) k f fd ps (spU ⟨K, mg⟩ ps.length (T.call (x, none))) ∧ ∀ n ks g, T.plan (x, none) n ks = some g → BindU ⟨K, mg⟩ fd ps n ks g
  cls : ∀ x, T.isCls x = true → ∃ C f fd ps, mg x = some (.ref C) ∧ Mk K C f ∧ FnOk P w K mg base (L2.CX P w) k f fd ps (spU ⟨K, mg⟩ ps.length (T.call (x, some "__init__"))) ∧ ∀ n ks g, T.plan (x, some "__init__") n ks = some g → BindU ⟨K, mg⟩ fd ps n ks g
  meth : ∀ x m, T.meth x m = true → ∃ C f fd ps, mg x = some (.ref C) ∧ Cls K C ∧ Meth K C m f ∧ FnOk P w K mg base (L2.CX P w) k f fd ps (spU ⟨K, mg⟩ ps.length (T.call (x, some m))) ∧ ∀ n ks g, T.plan (x, some m) n ks = some g → BindU ⟨K, mg⟩ fd ps n ks g
  fld : ∀ x f, T.fld x f = true → ∃ C, mg x = some (.ref C) ∧ Cls K C ∧ NoAttr K C f
  con : ∀ x u, T.con x = some u → ∃ v val, mg x = some val ∧ RelV v val ∧ ∀ r H, RU ⟨K, mg⟩ r H u v
  glo : ∀ x, T.glo x = true → ∃ a, mg x = some (.ref a)
  free : ∀ x, T.free x = true → mg x = none
  exc : ∀ x, T.exc x = true → ∃ C, mg x = some (.ref C) ∧ PySem.W.excIn K C [.type "ValueError", .type "Exception", .type "BaseException", .type "object"] "ValueError.__new__" = true ∧ PySem.W.keepIn K (.ref C) = true ∧ PySem.W.subIn K (.ref C) (.type "BaseException") = some true ∧ PySem.W.typeIn K (.ref C) = some (.type "type")
  sub : ∀ x y b, T.sub x y = some b → ∃ C D, mg x = some (.ref C) ∧ mg y = some (.ref D) ∧ PySem.W.exmOne K (.ref C) (.ref D) = some b
  isa : ∀ x u b, T.isa x u = some b → ∃ C cv, mg x = some (.ref C) ∧ ExcC K C ∧ clV mg u cv ∧ PySem.W.kitOne K (.ref C) cv = some b
/-- the table of methods -/
def methTab (name : Str) (kind : String) : Option MU :=
  if kind = "list" then (if name = "append" then some meAppend else if name = "pop" then some mePop else if name = "extend" then some meExtend else none)
  else if kind = "str" then (if name = "join" then some meJoin else if name = "upper" then some meUpper else if name = "split" then some meSplit else none)
  else none
theorem methTab_ok {X : Cx} {name : Str} {kind : String} {phi : MU} (h : methTab name kind = some phi) : ∃ id, PlainAttrs kind ∧ Slot kind name id ∧ typeOf (.builtin id) = pure (.type "method_descriptor") ∧ MtU X id phi := by
  unfold methTab at h
  split at h
  · rename_i hk
    subst hk
    split at h
    · rename_i hn; cases h; subst hn; exact ⟨_, PySem.F.plainAttrs_list, PySem.F.slot_list_append, PySem.F.type_list_append, me_append⟩
    · split at h
      · rename_i hn; cases h; subst hn; exact ⟨_, PySem.F.plainAttrs_list, PySem.F.slot_list_pop, PySem.F.type_list_pop, me_pop⟩
      · split at h
        · rename_i hn; cases h; subst hn; exact ⟨_, PySem.F.plainAttrs_list, PySem.F.slot_list_extend, PySem.F.type_list_extend, me_extend⟩
        · cases h
  · split at h
    · rename_i hk
      subst hk
      split at h
      · rename_i hn; cases h; subst hn; exact ⟨_, PySem.F.plainAttrs_str, PySem.F.slot_str_join, PySem.F.type_str_join, me_join⟩
      · split at h
        · rename_i hn; cases h; subst hn; exact ⟨_, PySem.F.plainAttrs_str, PySem.F.slot_str_upper, PySem.F.type_str_upper, me_upper⟩
        · split at h
          · rename_i hn; cases h; subst hn; exact ⟨_, PySem.F.plainAttrs_str, PySem.F.slot_str_split, PySem.F.type_str_split, me_split⟩
          · cases h
    · cases h
/-- what kind of built-in thing a method is asked of -/
def recvK : U → MH → Option String
  | .str _, _ => some "str"
  | .fl _, _ => some "list"
  | .ref n, m => (match m[n]? with
    | some (.lst _) => some "list"
    | some (.dic false _) => some "dict"
    | _ => none)
  | _, _ => none
/-- an instance: its class, its attributes -/
def insAt : U → MH → Option (Str × List (Str × U))
  | .ref n, m => (match m[n]? with
    | some (.ins c fs) => some (c, fs)
    | _ => none)
  | _, _ => none
def cMeth (T : Tab) (name : Str) (n : Nat) (ks : List Str) (o : E1) (a b : Fn1 (List U)) : E1 := fun t m => (o t m).bind fun u m1 => match recvK u m1 with
  | some kind => if ks = [] then (match methTab name kind with
    | some phi => (a t m1).bind fun us m2 => if us.length = n then ofO (phi u us m2) else .bad
    | none => .bad) else .bad
  | none => (match insAt u m1 with
    | some (c, fs) => if (T.meth c name && (fs.lookup name).isNone) = true then (match T.plan (c, some name) (n + 1) ks with
      | some g => cCallK n ks.length (fun us zs => T.call (c, some name) (g (u :: us) zs)) a b t m1
      | none => .bad) else .bad
    | none => .bad)
theorem recvK_ok {c : Cn} {r : Gh} {H : Hp} {m : MH} (C : Corr c r m H) {u : U} {v : V} {kind : String} (ru : RU c r H u v) (e : recvK u m = some kind) : tyV c.K kind v H := by
  cases ru with
  | str x => cases e; rfl
  | fl h1 h2 h3 hs => cases e; exact .inl ⟨rfl, _, SqL.of h3⟩
  | @ref n a h =>
    simp only [recvK] at e
    cases q : m[n]? with
    | none => rw [q] at e; cases e
    | some o =>
      obtain ⟨a', ho, h1, h2, h3⟩ := C.at_ n _ q
      rw [h] at h1
      cases h1
      rw [q] at e
      cases o with
      | lst us => cases e; cases h3 with | lst hs => exact .inl ⟨rfl, _, SqL.of h2⟩
      | dic l kvs =>
        cases l with
        | false => cases e; cases h3 with | dic hs => exact .inr (.inr (.inl ⟨rfl, .inl ⟨_, h2⟩⟩))
        | true => cases e
      | ins x fs => cases e
  | _ => cases e
theorem insAt_ok {c : Cn} {r : Gh} {H : Hp} {m : MH} (C : Corr c r m H) {u : U} {v : V} {x : Str} {fs : List (Str × U)} (ru : RU c r H u v) (e : insAt u m = some (x, fs)) :
    ∃ n a Cc dx ps, u = .ref n ∧ v = .ref a ∧ r.r[n]? = some a ∧ H a = some (.ins Cc dx ps) ∧ c.mg x = some (.ref Cc) ∧ RFs c r H fs ps := by
  cases ru with
  | @ref n a h =>
    simp only [insAt] at e
    cases q : m[n]? with
    | none => rw [q] at e; cases e
    | some o =>
      obtain ⟨a', ho, h1, h2, h3⟩ := C.at_ n _ q
      rw [h] at h1
      cases h1
      rw [q] at e
      cases o with
      | ins x fs => cases e; cases h3 with | ins hx hf => exact ⟨n, a, _, _, _, rfl, rfl, h, h2, hx, hf⟩
      | _ => cases e
  | _ => cases e
theorem RFs.look {c : Cn} {r : Gh} {H : Hp} {f : Str} : ∀ {fs : List (Str × U)} {ps : List (Str × V)}, RFs c r H fs ps → (∀ u, fs.lookup f = some u → ∃ v, ps.lookup f = some v ∧ RU c r H u v) ∧ (fs.lookup f = none → ps.lookup f = none)
  | _, _, .nil => ⟨fun _ e => (nomatch e), fun _ => rfl⟩
  | _, _, .cons (f := g) hu hs => by
    have ih := RFs.look (f := f) hs
    rw [List.lookup_cons, List.lookup_cons]
    cases hb : (f == g) with
    | true => exact ⟨fun u e => by cases e; exact ⟨_, rfl, hu⟩, fun e => (nomatch e)⟩
    | false => exact ih
section
variable {X : Cx} {W : WX} {T : Tab} {k : Nat} {o : Expr} {name : Str} {apos pos : Pos} {args : List Expr} {kws : List Keyword} {ks : List Str} {fo : E1} {fa fb : Fn1 (List U)}
theorem few_ok {pos : Pos} {env : Env} {args : List Expr} {kws : List Keyword} {ks : List Str} (hs : args.all noStar = true) (hk : kwNames kws = some ks) (hn : decide (args.length + kws.length + 1 < 30) = true) :
    methodCallForm (args.length + kws.length) (backTo pos (starEach args env)) (backToKw pos (keywordEach kws env)) = true := by
  unfold methodCallForm
  have h1 : (backTo pos (starEach args env)).all (fun x => !x.1) = true := by
    have q := star_plain (pos := pos) (env := env) hs
    rw [List.all_eq_not_any_not]
    simp only [Bool.not_not]
    rw [q]
    rfl
  rw [h1, (kw_ok (pos := pos) (env := env) hk).1, Bool.true_and, Bool.true_and]
  have := of_decide_eq_true hn
  refine decide_eq_true ?_
  split <;> omega
theorem mi_meth (ok : TabOk T X.prog X.w X.K X.mg X.base k) (hr : Room k X.A) (tk : Takes X W) (hbase : attributeBase o name X.env (eval o X.env) = eval o X.env) (hline : (apos.endLine == pos.line) = true) (hs : args.all noStar = true) (hk : kwNames kws = some ks)
    (hn : decide (args.length + kws.length + 1 < 30) = true) (ho : PE X o (tE (cn X) W fo)) (ha : PA X args (tAr (cn X) W fa)) (h0 : args = [] → fa = cNil) (hb : PKw X W kws fb) :
    PE X (.Call (.Attribute o name apos) args kws pos) (tE (cn X) W (cMeth T name args.length ks fo fa fb)) := by
  refine ⟨fun pins s σ H Q I ⟨r, m, t, C, E, kk⟩ => ?_⟩
  have hform := few_ok (pos := pos) (env := X.env) hs hk hn
  have hpos : methodCallPos true o X.env apos pos = pure pos := by unfold methodCallPos; simp [hline]
  rw [arm_eval_Call, hbase]
  refine wpAny_bind (thn (ho.run pins s σ H _ I ⟨r, m, t, C, E, kE.bind kk⟩) fun ov s1 ⟨x, H1, I1, rx, r1, m1, u, e1, C1, ru, k1⟩ => ?_)
  refine wpAny_bind (wpAny_standAt ?_)
  unfold methodCall
  rw [hform]
  dsimp only at k1
  cases e2 : recvK u m1 with
  | some kind =>
    rw [e2] at k1
    dsimp only at k1
    by_cases hks : ks = []
    · rw [if_pos hks] at k1
      subst hks
      have hkws : kws = [] := by cases kws with
        | nil => rfl
        | cons q qs => exact absurd (kw_len hk) (by simp)
      subst hkws
      cases e3 : methTab name kind with
      | none => rw [e3] at k1; exact k1.elim
      | some phi =>
        rw [e3] at k1
        dsimp only at k1
        obtain ⟨id, pa, slot, hty, hphi⟩ := methTab_ok (X := X) e3
        obtain ⟨g1, g2⟩ := tyV_is I1 rx (recvK_ok C1 ru e2)
        refine wpAny_bind (wpAny_holding (getMethod_builtin g1 pa slot hty g2 ?_))
        refine wpAny_bind (wpAny_of_eq hpos ?_)
        have go : ∀ (us : List Value) (s2 : Shared), AP X pins σ (Mid (cn X) RUs r1 H1 fun r2 m2 ws vs H2 => kE (cn X) RU W r2 H2 σ Q (if ws.length = args.length then ofO (phi u ws m2) else .bad)) us s2 → wpAny (model X.prog X.w) X.A (call (.builtin id) (ov :: us)) (EP X pins σ Q) X.xe s2 := by
          rintro us s2 ⟨vs, H2, I2, rv, r2, m2, ws, e4, C4, R4, k4⟩
          by_cases hl : ws.length = args.length
          · rw [if_pos hl] at k4
            exact hphi pins s2 σ H2 x vs ov us Q I2 rx rv ⟨r2, m2, u, ws, C4, ru.ext e4.w, R4, kE_ofO k4⟩
          · rw [if_neg hl] at k4; exact k4.elim
        cases args with
        | nil =>
          rw [h0 rfl] at k1
          have k1' : kE (cn X) RU W r1 H1 σ Q (if ([] : List U).length = ([] : List Expr).length then ofO (phi u [] m1) else .bad) := k1
          refine Calls.callWith_builtin rfl (PySem.evalArgs_none ?_)
          exact go [] s1 ⟨[], H1, I1, .nil, r1, m1, [], Ext.refl _ _, C1, .nil, k1'⟩
        | cons e es =>
          have hs' : noStar e = true ∧ es.all noStar = true := by rw [List.all_cons, Bool.and_eq_true] at hs; exact hs
          have hA := thn (ha.run pos pins s1 σ H1 _ I1 ⟨r1, m1, t, C1, E.ext e1.w, kE.bind k1⟩) go
          rw [star_cons hs'.1] at hA ⊢
          exact Calls.callWith_builtin (by show (false || (backTo pos (starEach es X.env)).any (·.1)) = false; rw [star_plain hs'.2]; rfl) (Calls.evalArgs_plain hA)
    · rw [if_neg hks] at k1; exact k1.elim
  | none =>
    rw [e2] at k1
    dsimp only at k1
    cases e3 : insAt u m1 with
    | none => rw [e3] at k1; exact k1.elim
    | some p =>
      obtain ⟨c, fs⟩ := p
      rw [e3] at k1
      dsimp only at k1
      by_cases hm : (T.meth c name && (fs.lookup name).isNone) = true
      · rw [if_pos hm] at k1
        rw [Bool.and_eq_true] at hm
        cases e4 : T.plan (c, some name) (args.length + 1) ks with
        | none => rw [e4] at k1; exact k1.elim
        | some g =>
          rw [e4] at k1
          dsimp only at k1
          obtain ⟨n, a, Cc, dx, ps, rfl, rfl, hra, hHa, hmg, hfs⟩ := insAt_ok C1 ru e3
          obtain ⟨C', f, fd, prm, hmg', hcl, hme, hF, hpl⟩ := ok.meth c name hm.1
          have : X.mg c = some (.ref Cc) := hmg
          rw [hmg'] at this
          cases this
          have hno : ps.lookup name = none := (RFs.look hfs).2 (Option.isNone_iff_eq_none.mp hm.2)
          cases rx
          refine wpAny_bind (wpAny_holding (getmeth_ok I1 hHa hcl hme hno ?_))
          refine wpAny_bind (wpAny_of_eq hpos ?_)
          refine args_then (first := [.ref a]) (n := args.length) (phi := fun us zs => T.call (c, some name) (g (.ref n :: us) zs)) hs hk ha h0 hb I1 hme.kp C1 (E.ext e1.w) k1 fun s2 H2 us ws vs zs I2 rv rz lz ⟨r2, m2, as, bs, e5, C5, R5, R6, la, k5⟩ => ?_
          have cw := callW_fn (W := W) tk hF hr (hpl _ _ _ e4)
          exact cw pins s2 σ H2 (.ref a :: us) ws (.ref a :: vs) zs Q I2 (.cons rfl rv) rz lz ⟨r2, m2, .ref n :: as, bs, C5, .cons (ru.ext e5.w) R5, R6, congrArg (· + 1) la, k5⟩
      · rw [if_neg hm] at k1; exact k1.elim
end
end Mi
set_option Elab.async false
set_option linter.all false
set_option maxRecDepth 100000
set_option maxHeartbeats 4000000
/-! Mi, part M: attributes read and stored, items stored, augmented stores. -/
namespace Mi
open PySem PySem.Spec PyProof.Rows L2
def cFld (T : Tab) (f : Str) (a : E1) : E1 := fun t m => (a t m).bind fun u m1 => match insAt u m1 with
  | some (c, fs) => if T.fld c f = true then (match fs.lookup f with
    | some w => .ok w m1
    | none => .bad) else .bad
  | none => .bad
/-- an attribute stored: in its place, or behind -/
def putFU (f : Str) (u : U) : List (Str × U) → List (Str × U)
  | [] => [(f, u)]
  | (g, x) :: r => if g = f then (g, u) :: r else (g, x) :: putFU f u r
def setFld (T : Tab) (f : Str) (o u : U) (m : MH) : Option MH := match o with
  | .ref n => (match insAt (.ref n) m with
    | some (c, fs) => if (T.fld c f && decide (fs.length < 900)) = true then some (m.set n (.ins c (putFU f u fs))) else none
    | none => none)
  | _ => none
/-- a dict's entry -/
def putU (q : Key) (k u : U) (kvs : List (U × U)) : List (U × U) :=
  if (kvs.any fun kv => decide (keyU kv.1 = some q)) = true then kvs.map (fun kv => if keyU kv.1 = some q then (kv.1, u) else kv) else kvs ++ [(k, u)]
def setU (o i u : U) (m : MH) : Option MH := match o with
  | .ref n => (match m[n]? with
    | some (.lst us) => (match i with
      | .int k => (ixN us.length k).map fun j => m.set n (.lst (us.set j u))
      | _ => none)
    | some (.dic false kvs) => (keyU i).bind fun q => if lineOk (kvs.length + 1) = true then some (m.set n (.dic false (putU q i u kvs))) else none
    | _ => none)
  | _ => none
/-- an item stored -/
def gSubU (fo fi : E1) : G1 := fun u t m => match fo t m with
  | .ok o m1 => (match fi t m1 with
    | .ok i m2 => (setU o i u m2).map fun m3 => (t, m3)
    | _ => none)
  | _ => none
def gFldU (T : Tab) (f : Str) (fo : E1) : G1 := fun u t m => match fo t m with
  | .ok o m1 => (setFld T f o u m1).map fun m3 => (t, m3)
  | _ => none
section
variable {c : Cn} {r : Gh} {H : Hp}
theorem RFs.put {f : Str} {u : U} {x : V} (ru : RU c r H u x) : ∀ {fs : List (Str × U)} {ps : List (Str × V)}, RFs c r H fs ps → RFs c r H (putFU f u fs) (putF f x ps)
  | _, _, .nil => .cons ru .nil
  | _, _, .cons (f := g) h hs => by
    unfold putFU putF
    by_cases e : g = f
    · rw [if_pos e, if_pos e]; exact .cons ru hs
    · rw [if_neg e, if_neg e]; exact .cons h (RFs.put ru hs)
theorem RFs.len : ∀ {fs : List (Str × U)} {ps : List (Str × V)}, RFs c r H fs ps → fs.length = ps.length
  | _, _, .nil => rfl
  | _, _, .cons _ h => congrArg (· + 1) (RFs.len h)
theorem RKs.any {q : Key} : ∀ {kvs : List (U × U)} {ps : List (Key × V)}, RKs c r H kvs ps → (kvs.any fun kv => decide (keyU kv.1 = some q)) = ps.any fun kv => decide (kv.1 = q)
  | _, _, .nil => rfl
  | _, _, .cons (q := q') hk hu hs => by
    rw [List.any_cons, List.any_cons, RKs.any hs, hk]
    congr 1
    by_cases e : q' = q
    · subst e; simp
    · rw [decide_eq_false e, decide_eq_false (fun z => e (Option.some.inj z))]
theorem RKs.map {q : Key} {u : U} {x : V} (ru : RU c r H u x) : ∀ {kvs : List (U × U)} {ps : List (Key × V)}, RKs c r H kvs ps → RKs c r H (kvs.map fun kv => if keyU kv.1 = some q then (kv.1, u) else kv) (ps.map fun kv => if kv.1 = q then (kv.1, x) else kv)
  | _, _, .nil => .nil
  | _, _, .cons (k := k) (u := u') (q := q') (x := x') hk hu hs => by
    rw [List.map_cons, List.map_cons]
    by_cases e : q' = q
    · subst e
      rw [if_pos hk, if_pos rfl]
      exact .cons hk ru (RKs.map ru hs)
    · have ne : ¬ keyU k = some q := fun z => e (Option.some.inj (hk.symm.trans z))
      rw [if_neg ne, if_neg e]
      exact .cons hk hu (RKs.map ru hs)
theorem RKs.app : ∀ {kvs kvs' : List (U × U)} {ps ps' : List (Key × V)}, RKs c r H kvs ps → RKs c r H kvs' ps' → RKs c r H (kvs ++ kvs') (ps ++ ps')
  | _, _, _, _, .nil, b => b
  | _, _, _, _, .cons k h hs, b => .cons k h (RKs.app hs b)
theorem RKs.put {q : Key} {k u : U} {x : V} (hk : keyU k = some q) (ru : RU c r H u x) {kvs : List (U × U)} {ps : List (Key × V)} (h : RKs c r H kvs ps) : RKs c r H (putU q k u kvs) (putK ps q x) := by
  unfold putU putK
  rw [h.any]
  by_cases e : (ps.any fun kv => decide (kv.1 = q)) = true
  · rw [if_pos e, if_pos e]; exact h.map ru
  · rw [if_neg e, if_neg e]; exact h.app (.cons hk ru .nil)
end
section
variable {X : Cx} {W : WX} {T : Tab} {k : Nat} {o i e : Expr} {f : Str} {pos pos' : Pos} {fo fi fe : E1}
theorem mi_fld (ok : TabOk T X.prog X.w X.K X.mg X.base k) (ho : PE X o (tE (cn X) W fo)) (hb : attributeBase o f X.env (eval o X.env) = eval o X.env) : PE X (.Attribute o f pos) (tE (cn X) W (cFld T f fo)) := by
  refine (pe_fld ho hb).weak fun s H Q ⟨r, m, t, C, E, kk⟩ => ⟨r, m, t, C, E, (kE.bind kk).imp ?_⟩
  rintro x H1 ⟨r1, m1, u, e1, C1, ru, k1⟩
  cases e2 : insAt u m1 with
  | none => rw [e2] at k1; exact k1.elim
  | some p =>
    obtain ⟨cl, fs⟩ := p
    rw [e2] at k1
    dsimp only at k1
    obtain ⟨n, a, Cc, dx, ps, rfl, rfl, hra, hHa, hmg, hfs⟩ := insAt_ok C1 ru e2
    by_cases hf : T.fld cl f = true
    · rw [if_pos hf] at k1
      cases e3 : fs.lookup f with
      | none => rw [e3] at k1; exact k1.elim
      | some w =>
        rw [e3] at k1
        obtain ⟨C', hm, hc, hn⟩ := ok.fld cl f hf
        have e0 : C' = Cc := by
          have : X.mg cl = some (.ref Cc) := hmg
          rw [hm] at this
          injection this with q; injection q
        subst e0
        obtain ⟨v, e4, e5⟩ := (RFs.look hfs).1 w e3
        exact ⟨a, C', dx, ps, v, rfl, hHa, hc, hn, e4, kE.ok (R := RU) k1 C1 e5⟩
    · rw [if_neg hf] at k1; exact k1.elim
theorem setFld_ok (ok : TabOk T X.prog X.w X.K X.mg X.base k) {r : Gh} {m m' : MH} {H : Hp} {o u : U} {x y : V} (C : Corr (cn X) r m H) (ro : RU (cn X) r H o x) (ru : RU (cn X) r H u y) (e : setFld T f o u m = some m') :
    ∃ a Cc dx ps, x = .ref a ∧ H a = some (.ins Cc dx ps) ∧ Cls X.K Cc ∧ NoAttr X.K Cc f ∧ ps.length < 1000 ∧ Corr (cn X) r m' (upd H a (.ins Cc dx (putF f y ps))) ∧ Ext r H r (upd H a (.ins Cc dx (putF f y ps))) := by
  cases o with
  | ref n =>
    simp only [setFld] at e
    cases e2 : insAt (.ref n) m with
    | none => rw [e2] at e; cases e
    | some p =>
      obtain ⟨cl, fs⟩ := p
      rw [e2] at e
      dsimp only at e
      by_cases hf : (T.fld cl f && decide (fs.length < 900)) = true
      · rw [if_pos hf] at e
        cases e
        rw [Bool.and_eq_true] at hf
        obtain ⟨n', a, Cc, dx, ps, hn', rfl, hra, hHa, hmg, hfs⟩ := insAt_ok C ro e2
        cases hn'
        obtain ⟨C', hm, hc, hn⟩ := ok.fld cl f hf.1
        have e0 : C' = Cc := by
          have : X.mg cl = some (.ref Cc) := hmg
          rw [hm] at this
          injection this with q; injection q
        subst e0
        have hl := of_decide_eq_true hf.2
        rw [hfs.len] at hl
        obtain ⟨C1, e1⟩ := C.put (o := .ins cl (putFU f u fs)) (ho := .ins C' dx (putF f y ps)) hra (.ins hmg (hfs.put ru))
        exact ⟨a, C', dx, ps, rfl, hHa, hc, hn, by omega, C1, e1⟩
      · rw [if_neg hf] at e; cases e
  | _ => cases e
theorem pset_U (hu : X.A.units + 1 < cLine) : PSet X (fun x y v H Q => ∃ r m o i u, Corr (cn X) r m H ∧ RU (cn X) r H o x ∧ RU (cn X) r H i y ∧ RU (cn X) r H u v ∧ ∃ m', setU o i u m = some m' ∧ ∀ r' H', Ext r H r' H' → Corr (cn X) r' m' H' → Q H') := by
  intro pins s σ H x y v ov iv uv Q I rx ry rv ⟨r, m, o, i, u, C, ro, ri, ru, m', e, k⟩
  cases o with
  | ref n =>
    simp only [setU] at e
    cases q : m[n]? with
    | none => rw [q] at e; cases e
    | some ob =>
      cases ro with
      | @ref _ a h =>
        obtain ⟨a', ho, h1, h2, h3⟩ := C.at_ n _ q
        rw [h] at h1
        cases h1
        rw [q] at e
        cases ob with
        | lst us =>
          dsimp only at e
          cases h3 with
          | lst hs =>
            cases ri with
            | int z =>
              rw [Option.map_eq_some_iff] at e
              obtain ⟨j, e1, rfl⟩ := e
              obtain ⟨C1, e2⟩ := C.put (o := .lst (us.set j u)) h (.lst (hs.set j ru))
              rw [hs.length] at e1
              exact set_list pins s σ H _ _ _ ov iv uv Q I rx ry rv ⟨_, _, _, _, rfl, rfl, h2, e1, k _ _ e2 C1⟩
            | _ => cases e
        | dic l kvs =>
          cases l with
          | true => cases e
          | false =>
            dsimp only at e
            cases h3 with
            | @dic _ ps hs =>
              cases e1 : keyU i with
              | none => rw [e1] at e; cases e
              | some qk =>
                rw [e1, Option.bind_some] at e
                by_cases hl : lineOk (kvs.length + 1) = true
                · rw [if_pos hl] at e
                  cases e
                  have hb := kV_of ri e1
                  subst hb
                  obtain ⟨C1, e2⟩ := C.put (o := .dic false (putU qk i u kvs)) (ho := .dK (putK ps qk v)) h (.dic (hs.put e1 ru))
                  have hv : ov = Value.ref a := rx
                  subst hv
                  have hlen := lineOk_of hl
                  rw [hs.length] at hlen
                  exact d_setItem hu I (DPut.k h2 hlen) ry rv fun s' I' => ⟨_, I', k _ _ e2 C1⟩
                · rw [if_neg hl] at e; cases e
        | ins x fs => cases e
  | _ => cases e
theorem mg_sub (hu : X.A.units + 1 < cLine) (ho : PE X o (tE (cn X) W fo)) (hi : PE X i (tE (cn X) W fi)) (h0 : noSlice i = true) : PG X (.Subscript o i pos) (tGt (cn X) [] (gSubU fo fi)) := by
  refine ⟨fun pins s σ H v u Q I rv ⟨r, m, t, w, C, E, ru, k⟩ => (pg_sub ho hi (pset_U hu) (by intro _; cases i <;> first | rfl | (exact nomatch (show false = true from h0)))).run pins s σ H v u Q I rv ?_⟩
  unfold gSubU at k
  refine ⟨r, m, t, C, E, ?_⟩
  cases e1 : fo t m with
  | err x m1 => rw [e1] at k; exact k.elim
  | bad => rw [e1] at k; exact k.elim
  | ok a m1 =>
    rw [e1] at k
    dsimp only at k
    intro r1 H1 x ex C1 ra
    refine ⟨r1, m1, t, C1, E.ext ex.w, ?_⟩
    cases e2 : fi t m1 with
    | err x m2 => rw [e2] at k; exact k.elim
    | bad => rw [e2] at k; exact k.elim
    | ok b m2 =>
      rw [e2] at k
      dsimp only at k
      intro r2 H2 y ey C2 rb
      cases e3 : setU a b w m2 with
      | none => rw [e3] at k; exact k.elim
      | some m3 =>
        rw [e3] at k
        have e12 := ex.trans ey
        exact ⟨r2, m2, a, b, w, C2, ra.ext ey.w, rb, ru.ext e12.w, m3, e3, fun r' H' e4 C4 => k r' H' σ (e12.trans e4) C4 ⟨(E.ext e12.w).ext e4.w, rfl, fun _ _ => rfl⟩⟩
theorem mg_fld (ok : TabOk T X.prog X.w X.K X.mg X.base k) (ho : PE X o (tE (cn X) W fo)) : PG X (.Attribute o f pos) (tGt (cn X) [] (gFldU T f fo)) := by
  refine ⟨fun pins s σ H v u Q I rv ⟨r, m, t, w, C, E, ru, k⟩ => ?_⟩
  unfold gFldU at k
  show wpAny _ _ (do
    let ov ← holding [u] (eval o X.env)
    standAt pos.atName
    holding [u, ov] (setAttr ov f u)
    release [u, ov] []) _ _ s
  cases e1 : fo t m with
  | err x m1 => rw [e1] at k; exact k.elim
  | bad => rw [e1] at k; exact k.elim
  | ok a m1 =>
    rw [e1] at k
    dsimp only at k
    cases e3 : setFld T f a w m1 with
    | none => rw [e3] at k; exact k.elim
    | some m3 =>
      rw [e3] at k
      have kk : kE (cn X) RU W r H σ (fun x H1 => ∃ r1, Ext r H r1 H1 ∧ Corr (cn X) r1 m1 H1 ∧ RU (cn X) r1 H1 a x) (fo t m) := by
        rw [e1]
        exact fun r1 H1 x ex C1 ra => ⟨r1, ex, C1, ra⟩
      refine wpAny_bind (wpAny_holding (thn (ho.run pins s σ H _ I ⟨r, m, t, C, E, kk⟩) fun ov s1 ⟨x, H1, I1, rx, r1, ex, C1, ra⟩ => ?_))
      refine wpAny_bind (wpAny_standAt ?_)
      obtain ⟨ad, Cc, dx, ps, rfl, hH, hc, hn, hl, C2, e2⟩ := setFld_ok ok C1 ra (ru.ext ex.w) e3
      have hov : ov = Value.ref ad := rx
      subst hov
      refine wpAny_bind (wpAny_holding (setattr_ok I1 hH hc hn hl rv fun s2 I2 => ?_))
      refine wpAny_release ?_
      exact ⟨σ, _, I2, k r1 _ σ (ex.trans e2) C2 ⟨(E.ext ex.w).ext e2.w, rfl, fun _ _ => rfl⟩⟩
end
end Mi
/-! Mi, part N: and/or as values, isinstance of exceptions, new dicts, turned lists, raise, try. -/
namespace Mi
open PySem PySem.Spec PyProof.Rows L2
/-! ### and, or, not as values -/
def cAndV (a b : E1) : E1 := fun t m => (a t m).bind fun u m1 => match truU u m1 with
  | some true => b t m1
  | some false => .ok u m1
  | none => .bad
def cOrV (a b : E1) : E1 := fun t m => (a t m).bind fun u m1 => match truU u m1 with
  | some true => .ok u m1
  | some false => b t m1
  | none => .bad
def cNotV (a : E1) : E1 := fun t m => (a t m).bind fun u m1 => match truU u m1 with
  | some b => .ok (.bl (!b)) m1
  | none => .bad
section
variable {X : Cx} {W : WX} {a b : Expr} {fa fb : E1} {rest : List Expr} {pos : Pos}
theorem mi_andV (ha : PE X a (tE (cn X) W fa)) (hb : PE X (.BoolOp .And (b :: rest) pos) (tE (cn X) W fb)) : PE X (.BoolOp .And (a :: b :: rest) pos) (tE (cn X) W (cAndV fa fb)) := by
  refine (pe_andT ha hb).weak fun s H Q h => ?_
  obtain ⟨r, m, t, C, E, k⟩ := h
  refine ⟨r, m, t, C, E, (kE.bind (R := RU) k).imp fun v H1 hm => ?_⟩
  obtain ⟨r1, m1, u, e1, C1, ru, k1⟩ := hm
  cases e : truU u m1 with
  | none =>
    rw [e] at k1
    exact (show False from k1).elim
  | some b =>
    rw [e] at k1
    refine ⟨b, tru_U C1 ru e, ?_⟩
    cases b with
    | true =>
      rw [if_pos rfl]
      exact ⟨r1, m1, t, C1, E.ext e1.w, k1⟩
    | false =>
      rw [if_neg Bool.false_ne_true]
      exact k1 _ _ _ (Ext.refl _ _) C1 ru
theorem mi_orV (ha : PE X a (tE (cn X) W fa)) (hb : PE X (.BoolOp .Or (b :: rest) pos) (tE (cn X) W fb)) : PE X (.BoolOp .Or (a :: b :: rest) pos) (tE (cn X) W (cOrV fa fb)) := by
  refine (pe_orT ha hb).weak fun s H Q h => ?_
  obtain ⟨r, m, t, C, E, k⟩ := h
  refine ⟨r, m, t, C, E, (kE.bind (R := RU) k).imp fun v H1 hm => ?_⟩
  obtain ⟨r1, m1, u, e1, C1, ru, k1⟩ := hm
  cases e : truU u m1 with
  | none =>
    rw [e] at k1
    exact (show False from k1).elim
  | some b =>
    rw [e] at k1
    refine ⟨b, tru_U C1 ru e, ?_⟩
    cases b with
    | true =>
      rw [if_pos rfl]
      exact k1 _ _ _ (Ext.refl _ _) C1 ru
    | false =>
      rw [if_neg Bool.false_ne_true]
      exact ⟨r1, m1, t, C1, E.ext e1.w, k1⟩
theorem mi_notV (ha : PE X a (tE (cn X) W fa)) : PE X (.UnaryOp .Not a pos) (tE (cn X) W (cNotV fa)) := by
  refine (pe_notT ha).weak fun s H Q h => ?_
  obtain ⟨r, m, t, C, E, k⟩ := h
  refine ⟨r, m, t, C, E, (kE.bind (R := RU) k).imp fun v H1 hm => ?_⟩
  obtain ⟨r1, m1, u, e1, C1, ru, k1⟩ := hm
  cases e : truU u m1 with
  | none =>
    rw [e] at k1
    exact (show False from k1).elim
  | some b =>
    rw [e] at k1
    exact ⟨b, tru_U C1 ru e, k1 _ _ _ (Ext.refl _ _) C1 (.bl _)⟩
/-! ### a new dict; a list turned round -/
def mkDic (m : MH) : U × MH := (.ref m.length, m ++ [.dic false []])
def cDic : E1 := fun _ m => .ok (.ref m.length) (m ++ [.dic false []])
theorem mi_dic : PE X (.Dict [] [] pos) (tE (cn X) W cDic) := by
  refine pe_dnewK.weak fun s H Q h => ?_
  obtain ⟨r, m, t, C, E, k⟩ := h
  intro p hp
  obtain ⟨C', e', g⟩ := C.new (o := .dic false []) hp (RO.dic RKs.nil)
  exact k _ _ _ e' C' (.ref g)
def revU : B1 := fun u m => (seqL u m).map fun us => (.fl us.reverse, m)
theorem mi_rev {e : Expr} {fe : E1} {k : Nat} {p1 p2 p3 : Pos} (he : PE X e (tE (cn X) W fe)) : PE X (.Subscript e (.Slice none none (some (.UnaryOp .USub (.Constant (.int 1) k p1) p2)) p3) pos) (tE (cn X) W (cUn revU fe)) := by
  refine (pe_revL he).weak fun s H Q h => ?_
  obtain ⟨r, m, t, C, E, k⟩ := h
  refine ⟨r, m, t, C, E, (kE.bind (R := RU) k).imp fun v H1 hm => ?_⟩
  obtain ⟨r1, m1, u, e1, C1, ru, k1⟩ := hm
  have k2 := kE_ofO k1
  cases e : seqL u m1 with
  | none =>
    unfold revU at k2
    rw [e] at k2
    exact (show False from k2).elim
  | some us =>
    unfold revU at k2
    rw [e] at k2
    obtain ⟨a, xs, rfl, hq, hs⟩ := seqL_ok C1 ru e
    refine ⟨a, xs, rfl, hq, fun p hp => ?_⟩
    obtain ⟨C', e', n1, n2⟩ := C1.beside (o := .lst xs.reverse) hp
    exact k2 _ _ _ e' C' (.fl n1 n2 upd_same (hs.rev.ext e'.w))
end
/-! ### isinstance, exceptions too -/
/-- one class -/
def isa1 (T : Tab) (u cl : U) (m : MH) : Option Bool := match u, cl with
  | .exn x, cl => T.isa x cl
  | u, .ty n => (tyU u m).bind fun a => if tys.contains n = true then some (isT a n) else none
  | _, _ => none
def isaN (T : Tab) (u : U) (m : MH) : List U → Option Bool
  | [] => some false
  | cl :: r => (isa1 T u cl m).bind fun b => match b with
    | true => some true
    | false => isaN T u m r
def biIsa (T : Tab) : FU
  | [u, .tup (c0 :: cls)], m => (isaN T u m (c0 :: cls)).map fun b => (.bl b, m)
  | [_, .tup []], _ => none
  | [u, cl], m => (isa1 T u cl m).map fun b => (.bl b, m)
  | _, _ => none
section
variable {X : Cx} {T : Tab} {k : Nat}
/-- what kind of thing isinstance asks -/
theorem isa_kit (ok : TabOk T X.prog X.w X.K X.mg X.base k) {pins : List (Addr × Obj)} {σ : L2.St} {s : Shared} {r : Gh} {m : MH} {H : Hp} {u : U} {x : V} {v : Value} (I : Inv X pins σ H s) (C : Corr (cn X) r m H) (ru : RU (cn X) r H u x) (rv : RelV x v) {cl0 : U} {b0 : Bool} (e0 : isa1 T u cl0 m = some b0) :
    ∃ (t : Value) (P : Heap → Prop), PySem.W.KitX X.K v t P ∧ P s.heap ∧ v ≠ .builtin "__main__.__loader__#opaque" ∧ ∀ cl b, isa1 T u cl m = some b → ∃ cv, clV X.mg cl cv ∧ PySem.W.kitOne X.K t cv = some b := by
  by_cases hx : ∃ y, u = .exn y
  · obtain ⟨y, rfl⟩ := hx
    obtain ⟨D, cv0, g0, X0, _, _⟩ := ok.isa _ _ _ (show T.isa y cl0 = some b0 from e0)
    cases ru with
    | @exn _ C1 a h1 h2 h3 h4 =>
      have ec : C1 = D := Value.ref.inj (Option.some.inj (h1.symm.trans g0))
      subst ec
      cases (show v = Value.ref a from rv)
      obtain ⟨⟨oe, vs, hg, hz, hd⟩, _, _⟩ := (show ObjOk X.prog X.w H s.heap a (ExC (.ref C1) none a) from I.hok a _ h4)
      have J : PySem.W.InstAt s.heap a oe C1 none := by
        obtain ⟨oc, od, oda, osl⟩ := oe
        obtain ⟨z1, z2⟩ := hz
        dsimp only at z1 z2 hd
        subst z1 z2 hd
        exact ⟨hg, rfl, rfl, trivial⟩
      refine ⟨_, _, PySem.W.handS_kitx_exc X0.hg X0.hk X0.hs X0.hd X0.ha X0.hn X0.ht X0.hm, J, fun z => (nomatch z), fun cl b e => ?_⟩
      obtain ⟨D2, cv, g2, _, h5, h6⟩ := ok.isa _ _ _ (show T.isa y cl = some b from e)
      have ec2 : C1 = D2 := Value.ref.inj (Option.some.inj (h1.symm.trans g2))
      subst ec2
      exact ⟨cv, h5, h6⟩
  · have ha : ∀ cl b, isa1 T u cl m = some b → ∃ n a, cl = .ty n ∧ tyU u m = some a ∧ tys.contains n = true ∧ b = isT a n := by
      intro cl b e
      have e1 : isa1 T u cl m = (match cl with
        | .ty n => (tyU u m).bind fun a => if tys.contains n = true then some (isT a n) else none
        | _ => none) := by
        cases u <;> first | exact absurd ⟨_, rfl⟩ hx | (cases cl <;> rfl)
      rw [e1] at e
      cases cl with
      | ty n =>
        dsimp only at e
        cases e2 : tyU u m with
        | none =>
          rw [e2] at e
          cases e
        | some a =>
          rw [e2] at e
          dsimp only [Option.bind] at e
          by_cases hc : tys.contains n = true
          · rw [if_pos hc] at e
            cases e
            exact ⟨n, a, rfl, rfl, hc, rfl⟩
          · rw [if_neg hc] at e
            cases e
      | _ => cases e
    obtain ⟨n0, a, rfl, ea, _, _⟩ := ha _ _ e0
    obtain ⟨ty, ht⟩ := tyU_ok C ru ea
    obtain ⟨P, Z, p, hx2⟩ := kit_of I rv ty
    refine ⟨_, P, Z, p, hx2, fun cl b e => ?_⟩
    obtain ⟨n, a', rfl, ea', hc, rfl⟩ := ha _ _ e
    rw [ea] at ea'
    cases ea'
    exact ⟨.type n, rfl, kit_ty (kitB_tab _ ht _ (by simpa using hc))⟩
theorem cl_val {r : Gh} {H : Hp} {u : U} {x : V} {v cv : Value} (ru : RU (cn X) r H u x) (rv : RelV x v) (h : clV X.mg u cv) : v = cv := by
  cases u with
  | glo y =>
    cases ru with
    | glo h1 =>
      have h2 : X.mg y = some cv := h
      have h3 : X.mg y = some _ := h1
      rw [h3] at h2
      cases h2
      exact rv
  | ty n =>
    cases ru
    rw [show cv = .type n from h]
    exact rv
  | _ => exact (show False from h).elim
theorem isaN_kit {t : Value} {u : U} {m : MH} {r : Gh} {H : Hp} (h : ∀ cl b, isa1 T u cl m = some b → ∃ cv, clV X.mg cl cv ∧ PySem.W.kitOne X.K t cv = some b) : ∀ {cls : List U} {xs : List V} {vs : List Value} {b : Bool}, RUs (cn X) r H cls xs → Vals xs vs → isaN T u m cls = some b → PySem.W.kitAny X.K t vs = some b
  | [], _, _, b, .nil, .nil, e => by
    cases e
    rfl
  | cl :: cls, _, _, b, .cons rc rs, .cons rv rvs, e => by
    unfold isaN at e
    cases e1 : isa1 T u cl m with
    | none =>
      rw [e1] at e
      cases e
    | some b1 =>
      rw [e1] at e
      obtain ⟨cv, c1, c2⟩ := h _ _ e1
      have ev := cl_val rc rv c1
      subst ev
      unfold PySem.W.kitAny
      rw [c2]
      cases b1 with
      | true => exact e
      | false => exact isaN_kit h rs rvs e
theorem bi_isa (ok : TabOk T X.prog X.w X.K X.mg X.base k) : CallR X (.builtin "isinstance") (rF (cn X) (biIsa T)) := by
  intro pins s σ H xs vs Q I rv h
  obtain ⟨r, m, us, C, rs, kk⟩ := h
  match us, rs, kk with
  | [u, w], rs, kk =>
    obtain ⟨x, y, rfl, ru, rw'⟩ := rs.two
    obtain ⟨v1, v2, rfl, r1, r2⟩ := vals2 rv
    by_cases hw : ∃ cls, w = .tup cls
    · obtain ⟨cls, rfl⟩ := hw
      match cls, rw', kk with
      | [], _, kk => exact (show False from kk).elim
      | c0 :: cls, rw', kk =>
        obtain ⟨b, e, kk2⟩ := map_some (show kO (cn X) RU r H Q ((isaN T u m (c0 :: cls)).map fun b => (.bl b, m)) from kk)
        cases rw' with
        | @tup _ a xs hT hs =>
          obtain ⟨its, rv2, ⟨o, h1, h2, n, h3⟩, hz⟩ := I.tuple hT.sq
          cases (show v2 = Value.ref a from r2)
          obtain ⟨oc, od, dt, sl⟩ := o
          simp only at h2 h3
          subst h2 h3
          have e0 : ∃ b0, isa1 T u c0 m = some b0 := by
            unfold isaN at e
            cases e1 : isa1 T u c0 m with
            | none =>
              rw [e1] at e
              cases e
            | some b1 => exact ⟨b1, rfl⟩
          obtain ⟨b0, e0⟩ := e0
          obtain ⟨t, P, Z, p, hx, hk⟩ := isa_kit ok I C ru r1 e0
          exact PySem.W.kia_tup Z I.kIn p h1 (isaN_kit hk hs rv2 e) hx fun tk => ⟨.bl b, H, I.tok tk, rfl, kk2.get C (.bl b)⟩
    · have e : biIsa T [u, w] m = (isa1 T u w m).map fun b => (.bl b, m) := by
        cases w <;> first | exact absurd ⟨_, rfl⟩ hw | rfl
      rw [e] at kk
      obtain ⟨b, e, kk2⟩ := map_some kk
      obtain ⟨t, P, Z, p, hx, hk⟩ := isa_kit ok I C ru r1 e
      obtain ⟨cv, c1, c2⟩ := hk _ _ e
      have ev := cl_val rw' r2 c1
      subst ev
      exact PySem.W.kia_one Z I.kIn p c2 hx fun tk => ⟨.bl b, H, I.tok tk, rfl, kk2.get C (.bl b)⟩
  | [], _, kk => exact (show False from kk).elim
  | [_], _, kk => exact (show False from kk).elim
  | _ :: w :: _ :: _, rs, kk =>
    cases w with
    | tup l => cases l <;> exact (show False from kk).elim
    | _ => exact (show False from kk).elim
end
end Mi
/-! Mi, part O: raise, try. -/
namespace Mi
open PySem PySem.Spec PyProof.Rows L2
/-! ### raise -/
/-- raise C('..') -/
def sRaise (x : Str) : S1 := fun t m => .err ⟨x, []⟩ t m
section
variable {X : Cx} {W : WX} {T : Tab} {k : Nat}
theorem ms_raise {x z : Str} {j : Nat} {p p2 p3 pos : Pos} (ok : TabOk T X.prog X.w X.K X.mg X.base k) (hc : X.calm = true) (tk : Takes X W) (hx : T.exc x = true) (hg : Gl X x) (hdb : (x == ("__debug__" : Str)) = false) :
    PS X (.Raise (some (.Call (.Name x p) [.Constant (.str z) j p2] [] p3)) none pos) (tS (cn X) W (sRaise x)) := by
  obtain ⟨C, h1, h2, h3, h4, h5⟩ := ok.exc x hx
  refine (ps_raise hc tk (pmk_own PySem.F.excBase_ValueError h2 h1 h3 (raises_own h4 h5) hg hdb)).weak fun D s H h => ?_
  obtain ⟨r, m, t, Co, E, kk⟩ := h
  exact kk r H s _ _ (Ext.refl _ _) Co E ⟨C, h1, rfl, .inl ⟨rfl, rfl⟩⟩
end
/-! ### a caught exception is taken up as a thing that is known -/
section
variable {X : Cx} {pins : List (Addr × Obj)} {σ : L2.St} {H : Hp} {s : Shared}
theorem inv_adopt {a : Addr} {o : HO} {oe : Obj} {vs : Array Value} (I : Inv X pins σ H s) (h0 : X.s_0.heap.get? a = none) (hn : H a = none) (he : s.heap.get? a = some oe) (hd : oe.data = .fields vs) (nL : a ≠ X.env.locals) (hp : ∀ p ∈ X.pn ++ pins, p.1 ≠ a)
    (new : ObjOk X.prog X.w (upd H a o) s.heap a o) : Inv X pins σ (upd H a o) s where
  ok := I.ok
  os := I.os
  bare := I.bare
  base :=
    { keep := I.base.keep
      slot := I.base.slot
      free := fun b ob e n hx => by
        rw [upd_ne (fun z => by rw [z, h0] at e; cases e)]
        exact I.base.free b ob e n hx
      there := I.base.there
      tups := fun b xs e => by
        have q := I.base.tups b xs e
        rw [upd_ne (ne_of_none q hn)]
        exact q
      frzs := fun b ob u e => by
        have q := I.base.frzs b ob u e
        rw [upd_ne (ne_of_none q hn)]
        exact q
      tbls := fun b ps e => by
        obtain ⟨m, q⟩ := I.base.tbls b ps e
        exact ⟨m, by rw [upd_ne (ne_of_none q hn)]; exact q⟩ }
  loc := I.loc
  cell := I.cell
  free := by rw [upd_ne (Ne.symm nL)]; exact I.free
  freeC := fun x c e => by
    obtain ⟨v, ob, ho, hv⟩ := I.cell x c e
    rw [upd_ne (fun z => by rw [z, he] at ho; cases ho; rw [hd] at hv; cases hv)]
    exact I.freeC x c e
  pin := fun p h => by
    obtain ⟨e, n, ne, nf, d⟩ := I.pin p h
    exact ⟨e, by rw [upd_ne (hp p h)]; exact n, ne, nf, d⟩
  hok := I.hok.laidN (fun _ _ q => q) hn new
  len := I.len
theorem inv_unsuite {a : Addr} {pn' : List (Addr × Obj)} (I : Inv (X.suite a (X.pn ++ pins)) pn' σ H s) (ok : X.Ok) : Inv X pins σ H s :=
  ⟨ok, I.os, I.bare, I.base, I.loc, I.cell, I.free, I.freeC, fun p hp => I.pin p (List.mem_append_left _ hp), I.hok, I.len⟩
theorem inv_suite {a : Addr} (I : Inv X pins σ H s) : Inv (X.suite a (X.pn ++ pins)) [] σ H s :=
  ⟨I.ok.suite _ _, I.os, I.bare, I.base, I.loc, I.cell, I.free, I.freeC, fun p hp => I.pin p (by rw [List.append_nil] at hp; exact hp), I.hok, I.len⟩
end
/-- the ends of a suite that bears a name -/
def dropD (oi : Option Nat) (D : Ends) : Ends := match oi with
  | none => D
  | some i => { nx := fun σ' H' => D.nx (σ'.set i none) H', rt := D.rt, bk := fun σ' H' => D.bk (σ'.set i none) H', ct := fun σ' H' => D.ct (σ'.set i none) H' }
def setO (oi : Option Nat) (a : Addr) (σ : L2.St) : L2.St := match oi with
  | none => σ
  | some i => σ.set i (some (.ref a))
/-- what the clauses wish of an exception of the body, one after the other -/
def wHd (K : PySem.W.Frag) (Wout : WX) (D : Ends) : List (Value × Option Nat × TS) → WX
  | [] => Wout
  | (c, oi, ts) :: r => fun cls d σ H => ∃ b, PySem.W.exmOne K cls c = some b ∧ (b = true → d = none ∧ ∀ a, H a = none → ts (dropD oi D) (setO oi a σ) (upd H a (ExC cls none a))) ∧ (b = false → wHd K Wout D r cls d σ H)
inductive HdU (X : Cx) : List ExceptHandler → List (Value × Option Nat × TS) → Prop
  | nil : HdU X [] []
  | cons {x : Str} {c : Value} {ts : TS} {b₀ : Stmt} {suite : List Stmt} {np pos' : Pos} {hds : List ExceptHandler} {l : List (Value × Option Nat × TS)} (hc : Names X x c)
      (hsu : ∀ (a : Addr) (pn : List (Addr × Obj)), PSs (X.suite a pn) (b₀ :: suite) ts) (r : HdU X hds l) :
      HdU X (.ExceptHandler (some (.Name x np)) none (b₀ :: suite) pos' :: hds) ((c, none, ts) :: l)
  | named {x n : Str} {i : Nat} {c : Value} {ts : TS} {b₀ : Stmt} {suite : List Stmt} {np pos' : Pos} {hds : List ExceptHandler} {l : List (Value × Option Nat × TS)} (hc : Names X x c) (hN : X.N.Nodup) (hi : X.N[i]? = some n) (hln : X.env.kindOf n = some .local)
      (hsu : ∀ (a : Addr) (pn : List (Addr × Obj)), PSs (X.suite a pn) (b₀ :: suite) ts) (r : HdU X hds l) :
      HdU X (.ExceptHandler (some (.Name x np)) (some n) (b₀ :: suite) pos' :: hds) ((c, some i, ts) :: l)
section
variable {X : Cx} {body : List Stmt} {h₀ : ExceptHandler} {hds : List ExceptHandler} {l : List (Value × Option Nat × TS)} {pos : Pos} {tb : WX → TS} {Wout : WX}
theorem ps_tryU (hex : X.ex = []) (hs : X.stack = X.env :: X.outer) (hf : X.env.frame = some X.env.locals) (tk : Takes X Wout)
    (hb : ∀ (W : WX) (pn : List (Addr × Obj)) (xe : Value → Shared → Prop), Takes (X.tr pn xe) W → PassesOwn (model X.prog X.w) X.A X.env xe → PSs (X.tr pn xe) body (tb W))
    (hh : HdU X (h₀ :: hds) l) : PS X (.Try body (h₀ :: hds) [] [] pos) (fun D σ H => tb (wHd X.K Wout D l) D σ H) := by
  refine ⟨fun pins s σ H D I h => ?_⟩
  have ok := I.ok
  have hfr : X.A.frames = some (X.env :: X.outer) := by rw [ok.frames, hs]
  refine wpAny_Try_except ?_
  refine wpAny_mono ((hb (wHd X.K Wout D l) (X.pn ++ pins) (fun e s₁ => wpAny (model X.prog X.w) X.A (noteFrame e X.env) (fun _ s₂ => wpAny (model X.prog X.w) X.A (setFlight e none) (fun _ s₃ =>
    wpAny (model X.prog X.w) X.A (handleBy e X.env (h₀ :: hds)) (SP X pins D) X.xe s₃) X.xe s₂) X.xe s₁) (fun u s' xx => ?_) PassesOwn.looking).run [] s σ H D (I.toTry _) h) (fun f s1 hsp => ?_) (fun e s1 he => he)
  · -- the catch
    obtain ⟨a, B, sI, pins', σ', H', cls, d, rfl, J', nb, up, sky, na, os, ag, w⟩ := xx
    have J : Inv X pins σ' H' sI := J'.ofTry ok
    have sky' : Sky B (X.env :: X.outer) a (Zc cls d) X.env.locals s'.heap := by rw [← hs]; exact sky
    show wpAny (model X.prog X.w) X.A (noteFrame (.ref a) X.env) _ _ _
    refine Sky.land Zc.steady hfr hf sky' fun h3 fl3 up3 => ?_
    have J3 : Inv X pins σ' H' { s' with heap := h3 } := J.landed nb fl3.1 (up.trans up3) os ag
    obtain ⟨oe3, vs3, he3, hz3, hd3⟩ := fl3.there
    have notFr : ∀ {h : Heap} {o : Obj} {vs : Array Value}, h.FunFrames B (X.env :: X.outer) → h.get? a = some o → o.data = .fields vs → a ∉ frs (X.env :: X.outer) := fun {h o vs} ff e dd hm => by
      obtain ⟨_, o', e', hnf⟩ := ff.mem hm
      rw [e] at e'; cases e'
      exact hnf _ dd
    have nfr := notFr fl3.2.2.1 he3 hd3
    have nL : a ≠ X.env.locals := fun z => nfr (List.mem_filterMap.mpr ⟨X.env, List.mem_cons_self, by rw [hf, z]⟩)
    have nI : sI.heap.get? a = none := by
      cases e : sI.heap.get? a with
      | none => rfl
      | some o =>
        have z := nb a o e (by rw [hs]; exact nfr)
        rw [fl3.2.1] at z
        cases z
    have n0 : X.s_0.heap.get? a = none := by
      cases e : X.s_0.heap.get? a with
      | none => rfl
      | some o =>
        obtain ⟨o', z⟩ := J.base.there a o e (by rw [hex]; exact fun z => nomatch z)
        rw [nI] at z
        cases z
    have nP : ∀ p ∈ X.pn ++ pins, p.1 ≠ a := fun p hp z => by
      have q := (J.pin p hp).1
      rw [z, nI] at q
      cases q
    have adopt : ∀ {h4 : Heap} {oe4 : Obj} {vs4 : Array Value}, d = none → Inv X pins σ' H' { s' with heap := h4 } → h4.get? a = some oe4 → Zc cls d oe4 → oe4.data = .fields vs4 → Inv X pins σ' (upd H' a (ExC cls none a)) { s' with heap := h4 } := fun {h4 oe4 vs4} hd J4 he4 hz4 hd4 => by
      subst hd
      exact inv_adopt (s := { s' with heap := h4 }) J4 n0 na he4 hd4 nL nP ⟨⟨oe4, vs4, he4, hz4, hd4⟩, ⟨oe4, he4⟩, fun _ _ ⟨o, v, q, z⟩ kk => ⟨o, v, kk o q, z⟩⟩
    have S3 := inv_suite (a := a) J3
    have LT : PySem.W.Looks (model X.prog X.w) h3 (typeOf (.ref a)) cls := fun A Q E s k q => wpAny_typeOf_ref (k _ _ he3) (by rw [hz3.1]; exact q)
    have test : ∀ {x : Str} {c : Value} {np : Pos} {Q : Value → Shared → Prop} {E : Value → Shared → Prop}, Names X x c → Q c { s' with heap := h3 } → wpAny (model X.prog X.w) (X.A.mark (some (.ref a))) (eval (.Name x np) X.env) Q E { s' with heap := h3 } := fun {x c np Q E} hc q => by
      obtain ⟨hg, hdbg, hm | ⟨hm, hv, hnn⟩⟩ := hc
      · exact ld_glob (X := X.suite a (X.pn ++ pins)) S3 hg hm q hdbg
      · exact ld_blt (X := X.suite a (X.pn ++ pins)) S3 hg hm hv q hnn hdbg
    have go : ∀ {hds' : List ExceptHandler} {l' : List (Value × Option Nat × TS)}, HdU X hds' l' → wHd X.K Wout D l' cls d σ' H' →
        wpAny (model X.prog X.w) X.A (handleBy (.ref a) X.env hds') (SP X pins D) X.xe { s' with heap := h3 } := by
      intro hds' l' hk
      induction hk with
      | nil =>
        intro w
        refine wpAny_handleBy_nil ?_
        obtain ⟨k1, k2, k3, oe, vs, T, oT, ts', he, hz, hd, h1, hr⟩ := id fl3
        unfold PySem.passOn
        refine wpAny_bind (wpAny_field he hd h1 ?_)
        rw [if_neg (show ¬ ((Value.ref T == Value.none) = true) from by simp)]
        have fin : wpAny (model X.prog X.w) X.A (setFlight (.ref a) X.env.frame) (fun _ s4 => wpAny (model X.prog X.w) X.A (throw (.ref a) : Sem Flow) (SP X pins D) X.xe s4) X.xe { s' with heap := h3 } := by
          rw [hf]
          refine HandSPX.setFlight_upZ fl3 fun h4 hh4 up4 => wpAny_throw (tk _ _ ?_)
          exact ⟨a, B, sI, pins, σ', H', cls, d, rfl, J, nb, (up.trans up3).trans up4, .inr (.inr (by rw [hs]; exact hh4)), na, os, ag, w⟩
        first
          | exact wpAny_bind (wpAny_pure (wpAny_bind fin))
          | exact wpAny_bind fin
      | @cons x c ts b₀ suite np pos' hds2 l2 hc hsu r ih =>
        intro w
        obtain ⟨b, hb1, hyes, hno⟩ := w
        refine wpAny_handleBy_cons (codeAny_handlers_test ?_) (by intro q; cases q)
        have LM := PySem.W.exm_one (M := model X.prog X.w) (J3.kIn) LT hb1
        refine test hc (LM.here ?_)
        cases b with
        | true =>
          obtain ⟨hd0, hyes⟩ := hyes rfl
          refine codeAny_handlers_suite ?_
          refine HandSPX.lands_againZ fl3 fun h4 fl4 up4 => ?_
          have J4 : Inv X pins σ' H' { s' with heap := h4 } := J.landed nb fl4.1 ((up.trans up3).trans up4) os ag
          obtain ⟨oe4, vs4, he4, hz4, hd4⟩ := fl4.there
          have S4 := inv_suite (a := a) (adopt hd0 J4 he4 hz4 hd4)
          refine wpAny_mono ((hsu a (X.pn ++ pins)).run [] _ _ _ _ S4 (hyes a na)) (fun f s6 hsp => ?_) (fun _ _ z => False.elim z)
          cases f with
          | next =>
            obtain ⟨σ6, H6, S6, q6⟩ := hsp
            exact ⟨_, _, inv_unsuite S6 ok, q6⟩
          | brk =>
            obtain ⟨σ6, H6, S6, q6⟩ := hsp
            exact ⟨_, _, inv_unsuite S6 ok, q6⟩
          | cont =>
            obtain ⟨σ6, H6, S6, q6⟩ := hsp
            exact ⟨_, _, inv_unsuite S6 ok, q6⟩
          | ret u =>
            obtain ⟨v6, σ6, H6, S6, r6, q6⟩ := hsp
            exact ⟨_, _, _, inv_unsuite S6 ok, r6, q6⟩
        | false =>
          show wpAny _ X.A (handleBy (.ref a) X.env hds2) _ _ _
          exact ih (hno rfl)
      | @named x n i c ts b₀ suite np pos' hds2 l2 hc hN hi hln hsu r ih =>
        intro w
        obtain ⟨b, hb1, hyes, hno⟩ := w
        refine wpAny_handleBy_cons (codeAny_handlers_test ?_) (by intro q; cases q)
        have LM := PySem.W.exm_one (M := model X.prog X.w) (J3.kIn) LT hb1
        refine test hc (LM.here ?_)
        cases b with
        | true =>
          obtain ⟨hd0, hyes⟩ := hyes rfl
          refine codeAny_handlers_suite_as ?_
          refine HandSPX.lands_againZ fl3 fun h4 fl4 up4 => ?_
          have J4 : Inv X pins σ' H' { s' with heap := h4 } := J.landed nb fl4.1 ((up.trans up3).trans up4) os ag
          obtain ⟨oe4, vs4, he4, hz4, hd4⟩ := fl4.there
          have S4 := inv_suite (a := a) (adopt hd0 J4 he4 hz4 hd4)
          refine store_ok (X := X.suite a (X.pn ++ pins)) (v := .ref a) S4 hN hi (.inl hln) rfl (fun s5 S5 => ?_) (.inr hln)
          refine wpAny_mono ((hsu a (X.pn ++ pins)).run [] s5 _ _ _ S5 (hyes a na)) (fun f s6 hsp => ?_) (fun _ _ z => False.elim z)
          have end_ : ∀ {σ6 : L2.St} {H6 : Hp} {Q : Shared → Prop}, Inv (X.suite a (X.pn ++ pins)) [] σ6 H6 s6 → (∀ s7, Inv X pins (σ6.set i none) H6 s7 → Q s7) →
              wpAny (model X.prog X.w) X.A (do bindName X.env n .none; unbindBehindTheSuite X.env n pos') (fun _ s7 => Q s7) X.xe s6 := fun {σ6 H6 Q} S6 hq => gone_ok (inv_unsuite S6 ok) hN hi hln hq
          cases f with
          | next =>
            obtain ⟨σ6, H6, S6, q6⟩ := hsp
            exact end_ S6 fun s7 J7 => ⟨_, _, J7, q6⟩
          | brk =>
            obtain ⟨σ6, H6, S6, q6⟩ := hsp
            exact end_ S6 fun s7 J7 => ⟨_, _, J7, q6⟩
          | cont =>
            obtain ⟨σ6, H6, S6, q6⟩ := hsp
            exact end_ S6 fun s7 J7 => ⟨_, _, J7, q6⟩
          | ret u =>
            obtain ⟨v6, σ6, H6, S6, r6, q6⟩ := hsp
            exact end_ S6 fun s7 J7 => ⟨_, _, _, J7, r6, q6⟩
        | false =>
          show wpAny _ X.A (handleBy (.ref a) X.env hds2) _ _ _
          exact ih (hno rfl)
    exact go hh w
  · cases f with
    | next =>
      obtain ⟨σ', H', J', q⟩ := hsp
      exact wpAny_execs_nil ⟨σ', H', J'.ofTry ok, q⟩
    | brk =>
      obtain ⟨σ', H', J', q⟩ := hsp
      exact ⟨σ', H', J'.ofTry ok, q⟩
    | cont =>
      obtain ⟨σ', H', J', q⟩ := hsp
      exact ⟨σ', H', J'.ofTry ok, q⟩
    | ret u =>
      obtain ⟨v, σ', H', J', r, q⟩ := hsp
      exact ⟨v, σ', H', J'.ofTry ok, r, q⟩
end
/-! ### try, by own values -/
structure Hd where
  cls : Str
  slot : Option Nat
  suite : S1
def unSlot (oi : Option Nat) : SO → SO
  | .nx t m => (match oi with
    | none => .nx t m
    | some i => .nx (t.set i none) m)
  | .bk t m => (match oi with
    | none => .bk t m
    | some i => .bk (t.set i none) m)
  | .ct t m => (match oi with
    | none => .ct t m
    | some i => .ct (t.set i none) m)
  | .rt u m => .rt u m
  | .err _ _ _ => .bad
  | .bad => .bad
def handle (T : Tab) (x : Ex) : List Hd → S1
  | [] => fun t m => .err x t m
  | h :: hs => fun t m => match T.sub x.cls h.cls with
    | some true => if x.fs.isEmpty = true then (match h.slot with
      | none => unSlot none (h.suite t m)
      | some i => unSlot (some i) (h.suite (t.set i (some (.exn x.cls))) m)) else .bad
    | some false => handle T x hs t m
    | none => .bad
def sTry (T : Tab) (fb : S1) (hs : List Hd) : S1 := fun t m => match fb t m with
  | .err x t' m' => handle T x hs t' m'
  | o => o
inductive HdM (X : Cx) : List ExceptHandler → List Hd → Prop
  | nil : HdM X [] []
  | cons {x : Str} {f : S1} {b₀ : Stmt} {suite : List Stmt} {np pos' : Pos} {hds : List ExceptHandler} {l : List Hd} (hg : Gl X x) (hdb : (x == ("__debug__" : Str)) = false)
      (hsu : ∀ (a : Addr) (pn : List (Addr × Obj)), PSs (X.suite a pn) (b₀ :: suite) (tS (cn X) W0 f)) (r : HdM X hds l) :
      HdM X (.ExceptHandler (some (.Name x np)) none (b₀ :: suite) pos' :: hds) (⟨x, none, f⟩ :: l)
  | named {x n : Str} {i : Nat} {f : S1} {b₀ : Stmt} {suite : List Stmt} {np pos' : Pos} {hds : List ExceptHandler} {l : List Hd} (hg : Gl X x) (hdb : (x == ("__debug__" : Str)) = false) (hN : X.N.Nodup) (hi : X.N[i]? = some n) (hln : X.env.kindOf n = some .local)
      (hsu : ∀ (a : Addr) (pn : List (Addr × Obj)), PSs (X.suite a pn) (b₀ :: suite) (tS (cn X) W0 f)) (r : HdM X hds l) :
      HdM X (.ExceptHandler (some (.Name x np)) (some n) (b₀ :: suite) pos' :: hds) (⟨x, some i, f⟩ :: l)
section
variable {X : Cx} {T : Tab} {k : Nat}
/-- every class that a clause names stands at the top -/
def HdK (X : Cx) (l : List Hd) : Prop := ∀ h ∈ l, ∃ D, X.mg h.cls = some (.ref D)
theorem hdU_of : ∀ {hds : List ExceptHandler} {l : List Hd}, HdM X hds l → HdK X l → ∃ l' : List (Value × Option Nat × TS), HdU X hds l' ∧
    Paired (fun (h : Hd) (p : Value × Option Nat × TS) => X.mg h.cls = some p.1 ∧ h.slot = p.2.1 ∧ p.2.2 = tS (cn X) W0 h.suite) l l'
  | _, _, .nil, _ => ⟨[], .nil, .nil⟩
  | _, _, .cons hg hdb hsu r, hk => by
    obtain ⟨D, hD⟩ := hk _ List.mem_cons_self
    obtain ⟨l', h1, h2⟩ := hdU_of r fun h hh => hk h (List.mem_cons_of_mem _ hh)
    exact ⟨(.ref D, none, _) :: l', .cons ⟨hg, hdb, .inl hD⟩ hsu h1, .cons ⟨hD, rfl, rfl⟩ h2⟩
  | _, _, .named hg hdb hN hi hln hsu r, hk => by
    obtain ⟨D, hD⟩ := hk _ List.mem_cons_self
    obtain ⟨l', h1, h2⟩ := hdU_of r fun h hh => hk h (List.mem_cons_of_mem _ hh)
    exact ⟨(.ref D, some _, _) :: l', .named ⟨hg, hdb, .inl hD⟩ hN hi hln hsu h1, .cons ⟨hD, rfl, rfl⟩ h2⟩
/-- from a suite's end -/
theorem kS_unSlot {c : Cn} {W : WX} {r : Gh} {H : Hp} {D : Ends} {oi : Option Nat} {o : SO} (h : kS c W r H D (unSlot oi o)) : kS c W0 r H (dropD oi D) o := by
  cases o with
  | nx t m => cases oi with
    | none => exact h
    | some i => exact fun r' H' s' e C E => h r' H' _ e C (E.unset i)
  | bk t m => cases oi with
    | none => exact h
    | some i => exact fun r' H' s' e C E => h r' H' _ e C (E.unset i)
  | ct t m => cases oi with
    | none => exact h
    | some i => exact fun r' H' s' e C E => h r' H' _ e C (E.unset i)
  | rt u m => cases oi with
    | none => exact h
    | some i => exact h
  | err x t m => exact h.elim
  | bad => exact h.elim
theorem wHd_of (ok : TabOk T X.prog X.w X.K X.mg X.base k) {Wout : WX} {D : Ends} {x : Ex} : ∀ {l : List Hd} {l' : List (Value × Option Nat × TS)}, Paired (fun (h : Hd) (p : Value × Option Nat × TS) => X.mg h.cls = some p.1 ∧ h.slot = p.2.1 ∧ p.2.2 = tS (cn X) W0 h.suite) l l' →
    ∀ {r : Gh} {H : Hp} {t : Env1} {m : MH} {s : L2.St} {cls : Value} {d : Option Addr}, Corr (cn X) r m H → EnvR (cn X) r H t s → XR (cn X) r H x cls d → kS (cn X) Wout r H D (handle T x l t m) → wHd X.K Wout D l' cls d s H
  | _, _, .nil, r, H, t, m, s, cls, d, C, E, xr, h => h r H s cls d (Ext.refl _ _) C E xr
  | h0 :: l, (c, oi, ts) :: l', .cons ⟨h1, h2, h3⟩ hr, r, H, t, m, s, cls, d, C, E, xr, h => by
    obtain ⟨y, sl, su⟩ := h0
    dsimp only at h1 h2 h3
    subst h2 h3
    unfold handle at h
    dsimp only at h
    cases e : T.sub x.cls y with
    | none =>
      rw [e] at h
      exact h.elim
    | some b =>
      rw [e] at h
      obtain ⟨Cc, Dd, g1, g2, g3⟩ := ok.sub _ _ _ e
      obtain ⟨C0, g4, rfl, g5⟩ := xr
      have ec : C0 = Cc := Value.ref.inj (Option.some.inj ((show X.mg x.cls = some (.ref C0) from g4).symm.trans g1))
      subst ec
      have ed : c = .ref Dd := Option.some.inj (h1.symm.trans g2)
      subst ed
      refine ⟨b, g3, fun hb => ?_, fun hb => ?_⟩
      · subst hb
        dsimp only at h
        by_cases hf : x.fs.isEmpty = true
        · rw [if_pos hf] at h
          have hd : d = none := by
            rcases g5 with ⟨_, z⟩ | ⟨a, ps, z, _⟩
            · exact z
            · exact absurd (List.isEmpty_iff.mp hf) z
          subst hd
          refine ⟨rfl, fun a ha => ?_⟩
          obtain ⟨C', e', n1, n2⟩ := C.beside (o := ExC (.ref C0) none a) ha
          cases sl with
          | none => exact ⟨r, m, t, C', E.ext e'.w, (kS_unSlot h).from e'⟩
          | some i => exact ⟨r, m, _, C', (E.ext e'.w).set (.exn g4 n1 n2 upd_same) i, (kS_unSlot h).from e'⟩
        · rw [if_neg hf] at h
          exact h.elim
      · subst hb
        exact wHd_of ok hr C E ⟨C0, g4, rfl, g5⟩ h
theorem ms_try {body : List Stmt} {h₀ : ExceptHandler} {hds : List ExceptHandler} {l : List Hd} {pos : Pos} {fb : S1} {W : WX} (ok : TabOk T X.prog X.w X.K X.mg X.base k) (hex : X.ex = []) (hs : X.stack = X.env :: X.outer) (hf : X.env.frame = some X.env.locals) (tk : Takes X W)
    (hb : ∀ (W : WX) (pn : List (Addr × Obj)) (xe : Value → Shared → Prop), Takes (X.tr pn xe) W → PassesOwn (model X.prog X.w) X.A X.env xe → PSs (X.tr pn xe) body (tS (cn X) W fb))
    (hh : HdM X (h₀ :: hds) l) (hk : HdK X l) : PS X (.Try body (h₀ :: hds) [] [] pos) (tS (cn X) W (sTry T fb l)) := by
  obtain ⟨l', h1, h2⟩ := hdU_of hh hk
  refine (ps_tryU (tb := fun W => tS (cn X) W fb) hex hs hf tk hb h1).weak fun D s H h => ?_
  obtain ⟨r, m, t, C, E, kk⟩ := h
  refine ⟨r, m, t, C, E, ?_⟩
  unfold sTry at kk
  cases e : fb t m with
  | err x t' m' =>
    rw [e] at kk
    exact fun r' H' s' cls d ex C' E' xr => wHd_of ok h2 C' E' xr (kk.from ex)
  | nx t' m' => rw [e] at kk; exact kk
  | rt u m' => rw [e] at kk; exact kk
  | bk t' m' => rw [e] at kk; exact kk
  | ct t' m' => rw [e] at kk; exact kk
  | bad => rw [e] at kk; exact kk
end
end Mi
/-! Mi, part P: the interpreter. -/
namespace Mi
open PySem PySem.Spec PyProof.Rows L2
/-- where code stands: the table, the slots, its scope, a block's own scope, within an except suite -/
structure DC where
  T : Tab
  N : List Str
  sc : Scope
  sc0 : Option Scope
  hot : Bool
def ixOf : List Str → Str → Option Nat
  | [], _ => none
  | y :: r, x => if y = x then some 0 else (ixOf r x).map (· + 1)
theorem ixOf_ok : ∀ {N : List Str} {x : Str} {i : Nat}, ixOf N x = some i → N[i]? = some x
  | [], _, _, h => by cases h
  | y :: r, x, i, h => by
    unfold ixOf at h
    by_cases e : y = x
    · rw [if_pos e] at h
      cases h
      rw [e]
      rfl
    · rw [if_neg e] at h
      cases q : ixOf r x with
      | none =>
        rw [q] at h
        cases h
      | some j =>
        rw [q] at h
        cases h
        show (y :: r)[j + 1]? = some x
        rw [List.getElem?_cons_succ]
        exact ixOf_ok q
def nmOk (x : Str) : Bool := !(x == ("__debug__" : Str)) && !(x == ("__classdict__" : Str)) && !(x == ("__name__" : Str))
theorem nmOk_1 {x : Str} (h : nmOk x = true) : (x == ("__debug__" : Str)) = false := by
  unfold nmOk at h
  simp only [Bool.and_eq_true, Bool.not_eq_true'] at h
  exact h.1.1
theorem nmOk_2 {x : Str} (h : nmOk x = true) : (x == ("__classdict__" : Str)) = false := by
  unfold nmOk at h
  simp only [Bool.and_eq_true, Bool.not_eq_true'] at h
  exact h.1.2
theorem nmOk_3 {x : Str} (h : nmOk x = true) : x ≠ "__name__" := by
  unfold nmOk at h
  simp only [Bool.and_eq_true, Bool.not_eq_true'] at h
  exact fun e => by
    have := h.2
    rw [e] at this
    exact absurd this (by decide)
def isGI (d : DC) (x : Str) : Bool := match d.sc.names.lookup x with
  | some .globalImplicit => true
  | _ => false
structure DenR where
  e : DC → Expr → E1
  t : DC → Expr → Fn1 Bool
  l : DC → Expr → List Nat
  g : DC → Expr → G1
  s : DC → Stmt → S1
def gBad : G1 := fun _ _ _ => none
def sBad : S1 := fun _ _ => .bad
def opU : Operator → Option B2
  | .Add => some addU
  | .Sub => some subU
  | .Mult => some mulU
  | .Mod => some modU
  | .Pow => some powU
  | .FloorDiv => some fdivU
  | _ => none
def ltI : Int → Int → Bool := fun i j => decide (i < j)
def leI : Int → Int → Bool := fun i j => decide (i ≤ j)
def gtI : Int → Int → Bool := fun i j => decide (j < i)
def geI : Int → Int → Bool := fun i j => decide (j ≤ i)
def cmpU : CmpOp → Option B2
  | .Eq => some eqU
  | .NotEq => some neU
  | .Lt => some (cmpI ltI)
  | .LtE => some (cmpI leI)
  | .Gt => some (cmpI gtI)
  | .GtE => some (cmpI geI)
  | .Is => some isU
  | .IsNot => some nisU
  | .In => some inU
  | .NotIn => some ninU
def tyTab (x : Str) : Option String :=
  if x = "int" then some "int" else if x = "str" then some "str" else if x = "bool" then some "bool" else if x = "list" then some "list" else if x = "tuple" then some "tuple" else if x = "dict" then some "dict" else if x = "ValueError" then some "ValueError" else none
/-- the built-ins that are called by values -/
def biTab (d : DC) (x : Str) : Option FU :=
  if x = "len" then some biLen else if x = "isinstance" then some (biIsa d.T) else if x = "abs" then some biAbs else
  if d.hot = true then none else if x = "all" then some biAll else if x = "any" then some biAny else if x = "sum" then some biSum else if x = "min" then some biMin else if x = "max" then some biMax else none
def btTab (x : Str) : Option FU :=
  if x = "str" then some biStr else if x = "list" then some biList else if x = "tuple" then some biTuple else none
def asOf (f : Expr → E1) : List Expr → Fn1 (List U)
  | [] => cNil
  | e :: es => cCons (f e) (asOf f es)
def kwOf (f : Expr → E1) : List Keyword → Fn1 (List U)
  | [] => cNil
  | ⟨_, e, _⟩ :: r => cCons (f e) (kwOf f r)
def wOf (op : BoolOp) (f : Expr → Fn1 Bool) : List Expr → Fn1 Bool
  | [] => cBad
  | [a] => f a
  | a :: b :: r => match op with
    | .And => cAnd (f a) (wOf op f (b :: r))
    | .Or => cOr (f a) (wOf op f (b :: r))
def vOf (op : BoolOp) (f : Expr → E1) : List Expr → E1
  | [] => cBad
  | [a] => f a
  | a :: b :: r => match op with
    | .And => cAndV (f a) (vOf op f (b :: r))
    | .Or => cOrV (f a) (vOf op f (b :: r))
def constE : Const → E1
  | .none => cK .non
  | .bool b => cK (.bl b)
  | .int i => cK (.int i)
  | .str x => cK (.str x)
  | _ => cBad
def gloE (T : Tab) (x : Str) : E1 := match T.con x with
  | some u => cK u
  | none => if T.glo x = true then cK (.glo x) else if T.free x = true then (match tyTab x with
    | some n => cK (.ty n)
    | none => cBad) else cBad
def nameE (d : DC) (x : Str) : E1 := if nmOk x = true then (match d.sc.names.lookup x with
  | some .globalImplicit => gloE d.T x
  | some .globalExplicit => cBad
  | none => cBad
  | some _ => (match ixOf d.N x with
    | some i => cVar i
    | none => cBad)) else cBad
def cmp1 (f : Expr → E1) (a : Expr) (op : CmpOp) (b : Expr) : E1 := match behindInMarks op b, cmpU op with
  | false, some g => cBin g (f a) (f b)
  | _, _ => cBad
def cmp2 (f : Expr → E1) (a : Expr) (op op' : CmpOp) (b b' : Expr) : E1 := match lastMarks [op, op'] [b, b'], cmpU op, cmpU op' with
  | false, some g, some g' => cChain g g' (f a) (f b) (f b')
  | _, _, _ => cBad
def cmpE (f : Expr → E1) (a : Expr) : List CmpOp → List Expr → E1
  | [op], [b] => cmp1 f a op b
  | [op, op'], [b, b'] => cmp2 f a op op' b b'
  | _, _ => cBad
def plainBase : Expr → Bool
  | .Call (.Name x _) [] [] _ => !(x == ("super" : Str))
  | _ => true
def noSet : Expr → Bool
  | .Set _ _ _ => false
  | _ => true
def isComp : Expr → Bool
  | .ListComp _ _ _ _ => true
  | .SetComp _ _ _ _ => true
  | .DictComp _ _ _ _ _ => true
  | _ => false
def callE (R : DenR) (d : DC) (f : Expr) (args : List Expr) (kws : List Keyword) (pos : Pos) : E1 := match f with
  | .Name x _ => if (nmOk x && isGI d x && args.all noStar) = true then (
      if d.T.isDef x = true then (if d.hot = true then cBad else match kwNames kws with
        | some ks => (match d.T.plan (x, none) args.length ks with
          | some g => cCallK args.length ks.length (fun as bs m => d.T.call (x, none) (g as bs) m) (asOf (R.e d) args) (kwOf (R.e d) kws)
          | none => cBad)
        | none => cBad)
      else if d.T.isCls x = true then (if d.hot = true then cBad else match kwNames kws with
        | some ks => (match d.T.plan (x, some "__init__") (args.length + 1) ks with
          | some g => cCallK args.length ks.length (makeF x (d.T.call (x, some "__init__")) g) (asOf (R.e d) args) (kwOf (R.e d) kws)
          | none => cBad)
        | none => cBad)
      else if d.T.free x = true then (match kws, args with
        | [], _ :: _ => (match biTab d x with
          | some g => cFn g (asOf (R.e d) args)
          | none => (match btTab x with
            | some g => cFn g (asOf (R.e d) args)
            | none => cBad))
        | _, _ => cBad) else cBad) else cBad
  | .Attribute o name apos => if (plainBase o && (apos.endLine == pos.line) && args.all noStar && decide (args.length + kws.length + 1 < 30) && !d.hot) = true then (match kwNames kws with
      | some ks => cMeth d.T name args.length ks (R.e d o) (asOf (R.e d) args) (kwOf (R.e d) kws)
      | none => cBad) else cBad
  | _ => cBad
def ownOf (N : List Str) : List (Str × NameKind) → List (Str × Nat)
  | [] => []
  | (x, .local) :: r => (match ixOf N x with
    | some i => (x, i) :: ownOf N r
    | none => ownOf N r)
  | (x, .cell) :: r => (match ixOf N x with
    | some i => (x, i) :: ownOf N r
    | none => ownOf N r)
  | _ :: r => ownOf N r
def DC.blk (d : DC) (scope : Scope) : DC := { d with sc := relS scope d.sc, sc0 := some scope }
def iE (R : DenR) (d : DC) (tg iter : Expr) : I1 := match iter with
  | .Call (.Name x p) args [] pos => if (isGI d x && d.T.free x && args.all noStar) = true then (
      if x = "range" then (match args with
        | [_] => cRng1 (asOf (R.e d) args)
        | [_, _] => cRng2 (asOf (R.e d) args)
        | _ => fun _ _ => .bad)
      else if x = "enumerate" then (match args, tg with
        | [_], .Tuple _ _ _ => cEnum (asOf (R.e d) args)
        | _, _ => fun _ _ => .bad)
      else cIt (R.e d (.Call (.Name x p) args [] pos))) else cIt (R.e d (.Call (.Name x p) args [] pos))
  | e => cIt (R.e d e)
def lcE (R : DenR) (d : DC) (elt : Expr) (gens : List Comprehension) (scope : Scope) (pos : Pos) : E1 := match gens with
  | [⟨tg, iter, ifs, a⟩] => if (decide (a = 0) && blkC d.N d.sc scope (ownOf d.N scope.names) && ((R.l (d.blk scope) tg).all fun i => decide (i ∈ (ownOf d.N scope.names).map (·.2))) && noSet iter && !d.hot) = true then (match ifs with
    | [] => cLc (d.T.heapAt pos) (iE R d tg iter) (R.g (d.blk scope) tg) cYes (R.e (d.blk scope) elt) ((ownOf d.N scope.names).map (·.2))
    | [c] => cLc (d.T.heapAt pos) (iE R d tg iter) (R.g (d.blk scope) tg) (R.t (d.blk scope) c) (R.e (d.blk scope) elt) ((ownOf d.N scope.names).map (·.2))
    | _ => cBad) else cBad
  | _ => cBad
def revIx : Expr → Bool
  | .Slice none none (some (.UnaryOp .USub (.Constant (.int 1) _ _) _)) _ => true
  | _ => false
def optE (f : Expr → E1) : Option Expr → Option E1
  | none => none
  | some e => some (f e)
def subE (R : DenR) (d : DC) (e ix : Expr) : E1 := if revIx ix = true then cUn revU (R.e d e) else match ix with
  | .Slice lo hi none _ => cSlice (R.e d e) (optE (R.e d) lo) (optE (R.e d) hi)
  | .Slice _ _ (some _) _ => cBad
  | b => cBin idxU (R.e d e) (R.e d b)
def stepE (R : DenR) (d : DC) (e : Expr) : E1 := match e with
  | .Constant v _ _ => constE v
  | .Name x _ => nameE d x
  | .BinOp a op b _ => (match opU op with
    | some g => cBin g (R.e d a) (R.e d b)
    | none => cBad)
  | .UnaryOp .Not a _ => cNotV (R.e d a)
  | .UnaryOp .USub a _ => cUn negU (R.e d a)
  | .BoolOp op es _ => vOf op (R.e d) es
  | .Compare a ops bs _ => cmpE (R.e d) a ops bs
  | .IfExp q a b _ => cIf (R.t d q) (R.e d a) (R.e d b)
  | .Tuple es _ _ => if es.all noStar = true then cFn mkTup (asOf (R.e d) es) else cBad
  | .List es p => if es.all noStar = true then (if d.T.heapAt p = true then cFn mkLst (asOf (R.e d) es) else cFn mkFl (asOf (R.e d) es)) else cBad
  | .Dict [] [] _ => cDic
  | .Subscript e ix _ => subE R d e ix
  | .Attribute o f _ => if plainBase o = true then cFld d.T f (R.e d o) else cBad
  | .Call f args kws pos => callE R d f args kws pos
  | .ListComp elt gens scope pos => lcE R d elt gens scope pos
  | _ => cBad
def plainT : Expr → Bool
  | .Name _ _ => true
  | .Call _ _ _ _ => true
  | .Subscript _ _ _ => true
  | .Attribute _ _ _ => true
  | .BinOp _ _ _ _ => true
  | .Constant _ _ _ => true
  | _ => false
def stepT (R : DenR) (d : DC) (e : Expr) : Fn1 Bool := match e with
  | .UnaryOp .Not a _ => cNot (R.t d a)
  | .BoolOp op es _ => wOf op (R.t d) es
  | .Compare a ops bs _ => cIsBl (cmpE (R.e d) a ops bs)
  | e => if plainT e = true then cTruth (R.e d e) else cBad
def okSt (d : DC) (x : Str) : Bool := match d.sc.names.lookup x with
  | some .local => true
  | some .cell => (match d.sc0 with
    | none => true
    | some s => (match s.names.lookup x with
      | some .cell => true
      | _ => false))
  | _ => false
def stepL (R : DenR) (d : DC) (e : Expr) : List Nat := match e with
  | .Name x _ => (match ixOf d.N x with
    | some i => [i]
    | none => [])
  | .Tuple es _ _ => es.flatMap (R.l d)
  | _ => []
def stepG (R : DenR) (d : DC) (e : Expr) : G1 := match e with
  | .Name x _ => (match ixOf d.N x with
    | some i => if okSt d x = true then gName i else gBad
    | none => gBad)
  | .Tuple es _ _ => if (!d.hot && es.all noStar) = true then gTup (es.map (R.g d)) else gBad
  | .Subscript o i _ => if noSlice i = true then gSubU (R.e d o) (R.e d i) else gBad
  | .Attribute o f _ => gFldU d.T f (R.e d o)
  | _ => gBad
def bOf (f : Stmt → S1) : List Stmt → S1
  | [] => sNx
  | st :: r => sSeq (f st) (bOf f r)
def noSwap : Expr → Expr → Bool
  | .Tuple _ _ _, .Tuple _ _ _ => false
  | .List _ _, .Tuple _ _ _ => false
  | _, _ => true
def compOk : Expr → Expr → Bool
  | .Name _ _, .SetComp _ _ _ _ => false
  | .Name _ _, .DictComp _ _ _ _ _ => false
  | _, _ => true
/-- name = [..], the two on one line -/
def swB (d : DC) (y : Str) (py pos : Pos) (scope : Scope) : Bool := (d.sc.names.lookup y == some .local) && (py.line == pos.line) && !(scope.names.any fun (n, k) => n == y && (k == .local || k == .cell))
def asgS (R : DenR) (d : DC) (tg e : Expr) : S1 := match tg, e with
  | .Name y py, .ListComp elt gens scope pos => if swB d y py pos scope = true then (match ixOf d.N y with
    | some i => sAsg (lcE R d elt gens scope pos) (gName i)
    | none => sBad) else sAsg (R.e d (.ListComp elt gens scope pos)) (R.g d (.Name y py))
  | tg, e => if (noStar tg && noSwap tg e && compOk tg e) = true then sAsg (R.e d e) (R.g d tg) else sBad
def hd1 (R : DenR) (d : DC) : ExceptHandler → Option Hd
  | .ExceptHandler (some (.Name x _)) on (b :: suite) _ => if (nmOk x && isGI d x && d.T.glo x) = true then (match on with
    | none => some ⟨x, none, bOf (R.s { d with hot := true }) (b :: suite)⟩
    | some n => (match ixOf d.N n, d.sc.names.lookup n with
      | some i, some .local => some ⟨x, some i, bOf (R.s { d with hot := true }) (b :: suite)⟩
      | _, _ => none)) else none
  | _ => none
def hdOf (R : DenR) (d : DC) : List ExceptHandler → Option (List Hd)
  | [] => some []
  | h :: r => (hd1 R d h).bind fun a => (hdOf R d r).map (a :: ·)
def raiseS (d : DC) (e : Expr) : S1 := match e with
  | .Call (.Name x _) [.Constant (.str _) _ _] [] _ => if (!d.hot && d.T.exc x && isGI d x && nmOk x) = true then sRaise x else sBad
  | _ => sBad
def stepS (R : DenR) (d : DC) (st : Stmt) : S1 := match st with
  | .Expr e _ => if isComp e = true then sBad else sDrop (R.e d e)
  | .Assign [tg] e _ => asgS R d tg e
  | .Return none _ => sRet (cK .non)
  | .Return (some e) _ => sRet (R.e d e)
  | .If q a b _ => sIf (R.t d q) (bOf (R.s d) a) (bOf (R.s d) b)
  | .For tg iter body [] _ => if (!d.hot && noSet iter) = true then sFor (iE R d tg iter) (R.g d tg) (bOf (R.s d) body) else sBad
  | .While q body [] _ => if d.hot = true then sBad else sWhile (R.t d q) (bOf (R.s d) body) d.T.fuel
  | .Pass _ => sNx
  | .Break _ => fun t m => .bk t m
  | .Continue _ => fun t m => .ct t m
  | .Raise (some e) none _ => raiseS d e
  | .Try body (h :: hs) [] [] _ => if d.hot = true then sBad else (match hdOf R d (h :: hs) with
    | some l => sTry d.T (bOf (R.s d) body) l
    | none => sBad)
  | _ => sBad
def denBad : DenR := ⟨fun _ _ => cBad, fun _ _ => cBad, fun _ _ => [], fun _ _ => gBad, fun _ _ => sBad⟩
def stepR (R : DenR) : DenR := ⟨stepE R, stepT R, stepL R, stepG R, stepS R⟩
def den : Nat → DenR
  | 0 => denBad
  | n + 1 => stepR (den n)
end Mi
/-! Mi, part Q: the interpreter tells what the model does: expressions, targets. -/
namespace Mi
open PySem PySem.Spec PyProof.Rows L2
structure CtxE (X : Cx) (W : WX) (k : Nat) (d : DC) : Prop where
  sc : X.env.scope = d.sc
  N : X.N = d.N
  nd : X.N.Nodup
  tk : Takes X W
  un : X.A.units + 65 < cLine
  room : d.hot = false → Room (k + 1) X.A
  calm : d.hot = false → X.calm = true
  fn : ∀ x, okSt d x = true → X.fn x = true ∨ X.env.scope.names.lookup x = some .local
  kind : X.env.scope.kind = .function
  tab : TabOk d.T X.prog X.w X.K X.mg X.base k
structure CtxS (X : Cx) (W : WX) (k : Nat) (d : DC) : Prop extends CtxE X W k d where
  ex : X.ex = []
  stk : X.stack = X.env :: X.outer
  fr : X.env.frame = some X.env.locals
  pass : PassesOwn (model X.prog X.w) X.A X.env X.xe
structure Snd (R : DenR) : Prop where
  e : ∀ {X : Cx} {W : WX} {k : Nat} {d : DC}, CtxE X W k d → ∀ e, PE X e (tE (cn X) W (R.e d e))
  t : ∀ {X : Cx} {W : WX} {k : Nat} {d : DC}, CtxE X W k d → ∀ e, PT X e (tTs (cn X) W (R.t d e))
  g : ∀ {X : Cx} {W : WX} {k : Nat} {d : DC}, CtxE X W k d → ∀ e, PG X e (tGt (cn X) (R.l d e) (R.g d e))
  s : ∀ {X : Cx} {W : WX} {k : Nat} {d : DC}, CtxS X W k d → ∀ st, PS X st (tS (cn X) W (R.s d st))
set_option linter.unusedVariables false
section
variable {X : Cx} {W : WX} {k : Nat} {d : DC} {R : DenR}
theorem pe_cBad {e : Expr} : PE X e (tE (cn X) W cBad) := PE.bad fun s H Q h => no_bad s H Q h
theorem pt_cBad {e : Expr} : PT X e (tTs (cn X) W cBad) := PT.bad fun s H Q h => no_bad s H Q h
theorem pw_cBad {e : Expr} : PW X e (tTs (cn X) W cBad) := ⟨fun wh pins s σ H Q I h => (no_bad σ H Q h).elim⟩
theorem pg_gBad {e : Expr} {L : List Nat} : PG X e (tGt (cn X) L gBad) := ⟨fun _ _ _ _ _ _ _ _ _ ⟨_, _, _, _, _, _, _, k⟩ => k.elim⟩
theorem pi_bad {tg iter : Expr} : PI X tg iter (tIt (cn X) W fun _ _ => .bad) := ⟨fun _ _ _ _ _ _ ⟨_, _, _, _, _, k⟩ => k.elim⟩
theorem CtxE.gl (c : CtxE X W k d) {x : Str} (h : isGI d x = true) : Gl X x := by
  unfold isGI at h
  show X.env.scope.names.lookup x = some .globalImplicit
  rw [c.sc]
  cases e : d.sc.names.lookup x with
  | none =>
    rw [e] at h
    cases h
  | some kd =>
    rw [e] at h
    cases kd <;> first | rfl | cases h
theorem CtxE.ix (c : CtxE X W k d) {x : Str} {i : Nat} (h : ixOf d.N x = some i) : X.N[i]? = some x := by
  rw [c.N]
  exact ixOf_ok h
theorem con_ok (c : CtxE X W k d) (v : Const) (j : Nat) (pos : Pos) : PE X (.Constant v j pos) (tE (cn X) W (constE v)) := by
  cases v with
  | none => exact mi_const pe_non fun _ _ => .non
  | bool b => exact mi_const pe_bl fun _ _ => .bl b
  | int i => exact mi_const pe_int fun _ _ => .int i
  | str x => exact mi_const pe_str fun _ _ => .str x
  | _ => exact pe_cBad
theorem tyTab_ok {x : Str} {n : String} (h : tyTab x = some n) : bootBuiltins x = some (.type n) := by
  unfold tyTab at h
  split at h
  · rename_i e; cases h; rw [e]; decide +kernel
  split at h
  · rename_i e; cases h; rw [e]; decide +kernel
  split at h
  · rename_i e; cases h; rw [e]; decide +kernel
  split at h
  · rename_i e; cases h; rw [e]; decide +kernel
  split at h
  · rename_i e; cases h; rw [e]; decide +kernel
  split at h
  · rename_i e; cases h; rw [e]; decide +kernel
  split at h
  · rename_i e; cases h; rw [e]; decide +kernel
  · cases h
theorem glo_ok (c : CtxE X W k d) {x : Str} (hn : nmOk x = true) (hg : Gl X x) (pos : Pos) : PE X (.Name x pos) (tE (cn X) W (gloE d.T x)) := by
  unfold gloE
  cases e : d.T.con x with
  | some u =>
    obtain ⟨v, val, h1, h2, h3⟩ := c.tab.con _ _ e
    exact mi_const (pe_glob hg h1 h2 (nmOk_1 hn)) h3
  | none =>
    dsimp only
    split
    · rename_i h
      obtain ⟨a, h1⟩ := c.tab.glo _ h
      exact mi_const (pe_glob (v := .ref a) hg h1 rfl (nmOk_1 hn)) fun _ _ => .glo h1
    · split
      · rename_i h
        cases e2 : tyTab x with
        | none => exact pe_cBad
        | some n => exact mi_const (pe_bltn (v := .ty n) hg (c.tab.free _ h) (tyTab_ok e2) rfl (nmOk_3 hn) (nmOk_1 hn)) fun _ _ => .ty n
      · exact pe_cBad
theorem name_ok (c : CtxE X W k d) (x : Str) (pos : Pos) : PE X (.Name x pos) (tE (cn X) W (nameE d x)) := by
  unfold nameE
  split
  · rename_i hn
    cases e : d.sc.names.lookup x with
    | none => exact pe_cBad
    | some kd =>
      have vis : ∀ i, ixOf d.N x = some i → Vis X.env.scope x → PE X (.Name x pos) (tE (cn X) W (cVar i)) := fun i hi hv => mi_var (c.ix hi) hv (nmOk_1 hn) (nmOk_2 hn)
      have hs : X.env.scope.names.lookup x = some kd := by rw [c.sc, e]
      cases kd with
      | globalImplicit => exact glo_ok c hn hs pos
      | globalExplicit => exact pe_cBad
      | «local» =>
        dsimp only
        cases e2 : ixOf d.N x with
        | none => exact pe_cBad
        | some i => exact vis i e2 (.inl hs)
      | cell =>
        dsimp only
        cases e2 : ixOf d.N x with
        | none => exact pe_cBad
        | some i => exact vis i e2 (.inr (.inl hs))
      | free =>
        dsimp only
        cases e2 : ixOf d.N x with
        | none => exact pe_cBad
        | some i => exact vis i e2 (.inr (.inr hs))
  · exact pe_cBad
theorem opU_ok {op : Operator} {g : B2} (h : opU op = some g) : OpR X (binaryOp op) (rB (cn X) g) := by
  cases op <;> cases h
  · exact op_addU
  · exact op_subU
  · exact op_mulU
  · exact op_modU
  · exact op_powU
  · exact op_fdivU
theorem cmpU_ok (hu : X.A.units + 65 < cLine) {op : CmpOp} {g : B2} (h : cmpU op = some g) : OpR X (compareOp op) (rB (cn X) g) := by
  cases op <;> cases h
  · exact op_eqU (by omega)
  · exact op_neU (by omega)
  · exact op_cmpI op_lt
  · exact op_cmpI op_le
  · exact op_cmpI op_gt
  · exact op_cmpI op_ge
  · exact op_isU
  · exact op_nisU
  · exact op_inU (by omega)
  · exact op_ninU (by omega)
theorem as_ok {f : Expr → E1} (h : ∀ e, PE X e (tE (cn X) W (f e))) : ∀ es : List Expr, es.all noStar = true → PA X es (tAr (cn X) W (asOf f es))
  | [], _ => mi_nil
  | e :: es, hs => by
    rw [List.all_cons, Bool.and_eq_true] at hs
    exact mi_cons hs.1 (h e) (as_ok h es hs.2)
theorem as_nil {f : Expr → E1} {es : List Expr} (h : es = []) : asOf f es = cNil := by rw [h]; rfl
theorem kw_ok' {f : Expr → E1} (h : ∀ e, PE X e (tE (cn X) W (f e))) : ∀ ks : List Keyword, PKw X W ks (kwOf f ks)
  | [] => pkw_nil
  | ⟨n, e, p⟩ :: r => pkw_cons (h e) (kw_ok' h r)
theorem w_ok {f : Expr → Fn1 Bool} (h : ∀ e, PT X e (tTs (cn X) W (f e))) (op : BoolOp) (pos : Pos) : ∀ es : List Expr, PW X (.BoolOp op es pos) (tTs (cn X) W (wOf op f es))
  | [] => pw_cBad
  | [a] => by
    cases op with
    | And => exact pw_and1 (h a)
    | Or => exact pw_or1 (h a)
  | a :: b :: r => by
    cases op with
    | And => exact mi_and (h a) (w_ok h .And pos (b :: r))
    | Or => exact mi_or (h a) (w_ok h .Or pos (b :: r))
theorem v_ok {f : Expr → E1} (h : ∀ e, PE X e (tE (cn X) W (f e))) (op : BoolOp) (pos : Pos) : ∀ es : List Expr, PE X (.BoolOp op es pos) (tE (cn X) W (vOf op f es))
  | [] => pe_cBad
  | [a] => pe_one (h a)
  | a :: b :: r => by
    cases op with
    | And => exact mi_andV (h a) (v_ok h .And pos (b :: r))
    | Or => exact mi_orV (h a) (v_ok h .Or pos (b :: r))
theorem cmp1_ok (c : CtxE X W k d) {f : Expr → E1} (h : ∀ e, PE X e (tE (cn X) W (f e))) (a : Expr) (pos : Pos) (op : CmpOp) (b : Expr) : PE X (.Compare a [op] [b] pos) (tE (cn X) W (cmp1 f a op b)) := by
  unfold cmp1
  cases e1 : behindInMarks op b with
  | true => exact pe_cBad
  | false => cases e : cmpU op with
    | none => exact pe_cBad
    | some g => exact mi_cmp (cmpU_ok c.un e) (h a) (h b) e1
theorem cmp2_ok (c : CtxE X W k d) {f : Expr → E1} (h : ∀ e, PE X e (tE (cn X) W (f e))) (a : Expr) (pos : Pos) (op op' : CmpOp) (b b' : Expr) : PE X (.Compare a [op, op'] [b, b'] pos) (tE (cn X) W (cmp2 f a op op' b b')) := by
  unfold cmp2
  cases e1 : lastMarks [op, op'] [b, b'] with
  | true => exact pe_cBad
  | false => cases e : cmpU op with
    | none => exact pe_cBad
    | some g => cases e' : cmpU op' with
      | none => exact pe_cBad
      | some g' => exact mi_chain (cmpU_ok c.un e) (cmpU_ok c.un e') (h a) (h b) (h b') e1
theorem cmp_ok (c : CtxE X W k d) {f : Expr → E1} (h : ∀ e, PE X e (tE (cn X) W (f e))) (a : Expr) (pos : Pos) : ∀ (ops : List CmpOp) (bs : List Expr), PE X (.Compare a ops bs pos) (tE (cn X) W (cmpE f a ops bs))
  | [op], [b] => cmp1_ok c h a pos op b
  | [op, op'], [b, b'] => cmp2_ok c h a pos op op' b b'
  | [], _ => pe_cBad
  | [_], [] => pe_cBad
  | [_], _ :: _ :: _ => pe_cBad
  | [_, _], [] => pe_cBad
  | [_, _], [_] => pe_cBad
  | [_, _], _ :: _ :: _ :: _ => pe_cBad
  | _ :: _ :: _ :: _, _ => pe_cBad
theorem mi_chainT {op op' : CmpOp} {g g' : B2} {a b e : Expr} {fa fb fd : E1} {pos : Pos} (ho : OpR X (compareOp op) (rB (cn X) g)) (ho' : OpR X (compareOp op') (rB (cn X) g')) (ha : PE X a (tE (cn X) W fa)) (hb : PE X b (tE (cn X) W fb)) (hd : PE X e (tE (cn X) W fd)) (hm : lastMarks [op, op'] [b, e] = false) :
    PT X (.Compare a [op, op'] [b, e] pos) (tTs (cn X) W (cIsBl (cChain g g' fa fb fd))) := by
  refine (pt_chain ho ho' ha hb hd hm).weak fun s H Q ⟨r, m, t, C, E, kk⟩ => ?_
  have k0 : kE (cn X) RU W r H s (fun x H' => ∃ k, x = .bl k ∧ Q k H') (cChain g g' fa fb fd t m) := (kE.bind kk).imp fun x H1 ⟨r1, m1, u, e1, C1, ru, k1⟩ => kbl C1 ru k1
  refine ⟨r, m, t, C, E, (kE.bind k0).imp ?_⟩
  rintro x H1 ⟨r1, m1, u, e1, C1, ru, k1⟩
  refine ⟨r1, m1, t, C1, E.ext e1.w, (kE.bind k1).imp ?_⟩
  rintro y H2 ⟨r2, m2, w, e2, C2, rw2, k2⟩
  refine ⟨r2, m2, u, w, C2, ru.ext e2.w, rw2, ?_⟩
  cases e : g u w m2 with
  | none => rw [e] at k2; exact k2
  | some p =>
    obtain ⟨z, m3⟩ := p
    rw [e] at k2
    intro r3 H3 v e3 C3 rv
    have k3 := kE.from k2 e3
    cases z with
    | bl b =>
      cases rv
      refine ⟨b, rfl, ?_⟩
      cases b with
      | true =>
        refine iteT ⟨r3, m3, t, C3, ((E.ext e1.w).ext e2.w).ext e3.w, (kE.bind (show kE (cn X) RU W r3 H3 s (fun x H' => ∃ k, x = .bl k ∧ Q k H') ((fd t m3).bind fun y m5 => ofO (g' w y m5)) from k3)).imp ?_⟩
        rintro x4 H4 ⟨r4, m4, u4, e4, C4, ru4, k4⟩
        exact ⟨r4, m4, w, u4, C4, (rw2.ext e3.w).ext e4.w, ru4, kE_ofO k4⟩
      | false => exact iteF (kE.ok (show kE (cn X) RU W r3 H3 s (fun x H' => ∃ k, x = .bl k ∧ Q k H') (.ok (.bl false) m3) from k3) C3 (.bl false))
    | _ => exact k3.elim
theorem cmpT_bad {e : Expr} : PT X e (tTs (cn X) W (cIsBl cBad)) := PT.bad fun _ _ _ ⟨_, _, _, _, _, k⟩ => k
theorem cmpT1_ok (c : CtxE X W k d) {f : Expr → E1} (h : ∀ e, PE X e (tE (cn X) W (f e))) (a : Expr) (pos : Pos) (op : CmpOp) (b : Expr) : PT X (.Compare a [op] [b] pos) (tTs (cn X) W (cIsBl (cmp1 f a op b))) := by
  unfold cmp1
  cases e1 : behindInMarks op b with
  | true => exact cmpT_bad
  | false => cases e : cmpU op with
    | none => exact cmpT_bad
    | some g => exact mi_cmpT (cmpU_ok c.un e) (h a) (h b) e1
theorem cmpT2_ok (c : CtxE X W k d) {f : Expr → E1} (h : ∀ e, PE X e (tE (cn X) W (f e))) (a : Expr) (pos : Pos) (op op' : CmpOp) (b b' : Expr) : PT X (.Compare a [op, op'] [b, b'] pos) (tTs (cn X) W (cIsBl (cmp2 f a op op' b b'))) := by
  unfold cmp2
  cases e1 : lastMarks [op, op'] [b, b'] with
  | true => exact cmpT_bad
  | false => cases e : cmpU op with
    | none => exact cmpT_bad
    | some g => cases e' : cmpU op' with
      | none => exact cmpT_bad
      | some g' => exact mi_chainT (cmpU_ok c.un e) (cmpU_ok c.un e') (h a) (h b) (h b') e1
theorem cmpT_ok (c : CtxE X W k d) {f : Expr → E1} (h : ∀ e, PE X e (tE (cn X) W (f e))) (a : Expr) (pos : Pos) : ∀ (ops : List CmpOp) (bs : List Expr), PT X (.Compare a ops bs pos) (tTs (cn X) W (cIsBl (cmpE f a ops bs)))
  | [op], [b] => cmpT1_ok c h a pos op b
  | [op, op'], [b, b'] => cmpT2_ok c h a pos op op' b b'
  | [], _ => cmpT_bad
  | [_], [] => cmpT_bad
  | [_], _ :: _ :: _ => cmpT_bad
  | [_, _], [] => cmpT_bad
  | [_, _], [_] => cmpT_bad
  | [_, _], _ :: _ :: _ :: _ => cmpT_bad
  | _ :: _ :: _ :: _, _ => cmpT_bad
theorem base_ok {o : Expr} {f : Str} {env : Env} (h : plainBase o = true) : attributeBase o f env (eval o env) = eval o env := by
  unfold attributeBase
  split
  · rename_i id p pos
    have h2 : (!(id == ("super" : Str))) = true := h
    have h3 : (id != ("super" : Str)) = true := h2
    simp only [h3, Bool.true_or, if_true]
  · rfl
end
end Mi
/-! Mi, part R: the interpreter tells what the model does: calls, comprehensions, statements. -/
namespace Mi
open PySem PySem.Spec PyProof.Rows L2
set_option linter.unusedVariables false
section
variable {X : Cx} {W : WX} {k : Nat} {d : DC} {R : DenR}
theorem biTab_ok (c : CtxE X W k d) {x : Str} {g : FU} (h : biTab d x = some g) : ∃ id, bootBuiltins x = some (.builtin id) ∧ CallR X (.builtin id) (rF (cn X) g) := by
  unfold biTab at h
  split at h
  · rename_i e; cases h; rw [e]; exact ⟨"len", by decide +kernel, bi_len⟩
  split at h
  · rename_i e; cases h; rw [e]; exact ⟨"isinstance", by decide +kernel, bi_isa c.tab⟩
  split at h
  · rename_i e; cases h; rw [e]; exact ⟨"abs", by decide +kernel, bi_abs⟩
  split at h
  · cases h
  rename_i hh
  have hc := c.calm (Bool.not_eq_true _ ▸ hh)
  split at h
  · rename_i e; cases h; rw [e]; exact ⟨"all", by decide +kernel, bi_all hc⟩
  split at h
  · rename_i e; cases h; rw [e]; exact ⟨"any", by decide +kernel, bi_any hc⟩
  split at h
  · rename_i e; cases h; rw [e]; exact ⟨"sum", by decide +kernel, bi_sum hc⟩
  split at h
  · rename_i e; cases h; rw [e]; exact ⟨"min", by decide +kernel, bi_min hc⟩
  split at h
  · rename_i e; cases h; rw [e]; exact ⟨"max", by decide +kernel, bi_max hc⟩
  · cases h
theorem btTab_ok {x : Str} {g : FU} (h : btTab x = some g) : ∃ id, bootBuiltins x = some (.type id) ∧ CallR X (.type id) (rF (cn X) g) := by
  unfold btTab at h
  split at h
  · rename_i e; cases h; rw [e]; exact ⟨"str", by decide +kernel, bi_str⟩
  split at h
  · rename_i e; cases h; rw [e]; exact ⟨"list", by decide +kernel, bi_list⟩
  split at h
  · rename_i e; cases h; rw [e]; exact ⟨"tuple", by decide +kernel, bi_tuple⟩
  · cases h
/-- a call of one's own def -/
theorem call_def (c : CtxE X W k d) (h : ∀ e, PE X e (tE (cn X) W (R.e d e))) {x : Str} {p pos : Pos} {args : List Expr} {kws : List Keyword} {ks : List Str} {g : List U → List U → List U} (hn : nmOk x = true) (hg : Gl X x) (hs : args.all noStar = true) (hd : d.T.isDef x = true) (hh : d.hot = false) (hk : kwNames kws = some ks)
    (hp : d.T.plan (x, none) args.length ks = some g) : PE X (.Call (.Name x p) args kws pos) (tE (cn X) W (cCallK args.length ks.length (fun as bs m => d.T.call (x, none) (g as bs) m) (asOf (R.e d) args) (kwOf (R.e d) kws))) := by
  obtain ⟨f, fd, ps, h1, h2, F, hB⟩ := c.tab.def_ x hd
  exact mi_call (callW_fn c.tk F ((c.room hh).mono (Nat.le_succ _)) (hB _ _ _ hp)) hg h1 h2 (nmOk_1 hn) hs hk (as_ok h args hs) (fun e => as_nil e) (kw_ok' h kws)
theorem call_cls (c : CtxE X W k d) (h : ∀ e, PE X e (tE (cn X) W (R.e d e))) {x : Str} {p pos : Pos} {args : List Expr} {kws : List Keyword} {ks : List Str} {g : List U → List U → List U} (hn : nmOk x = true) (hg : Gl X x) (hs : args.all noStar = true) (hd : d.T.isCls x = true) (hh : d.hot = false) (hk : kwNames kws = some ks)
    (hp : d.T.plan (x, some "__init__") (args.length + 1) ks = some g) : PE X (.Call (.Name x p) args kws pos) (tE (cn X) W (cCallK args.length ks.length (makeF x (d.T.call (x, some "__init__")) g) (asOf (R.e d) args) (kwOf (R.e d) kws))) := by
  obtain ⟨C, f, fd, ps, h1, h2, F, hB⟩ := c.tab.cls x hd
  exact mi_call (callW_make c.tk h2 h1 F (c.room hh) (hB _ _ _ hp)) hg h1 h2.kp (nmOk_1 hn) hs hk (as_ok h args hs) (fun e => as_nil e) (kw_ok' h kws)
theorem and3 {a b e : Bool} (h : (a && b && e) = true) : a = true ∧ b = true ∧ e = true := b3 h
theorem call_ok (c : CtxE X W k d) (h : ∀ e, PE X e (tE (cn X) W (R.e d e))) (f : Expr) (args : List Expr) (kws : List Keyword) (pos : Pos) : PE X (.Call f args kws pos) (tE (cn X) W (callE R d f args kws pos)) := by
  cases f with
  | Name x p =>
    unfold callE
    dsimp only
    split
    · rename_i h0
      obtain ⟨hn, hgi, hs⟩ := and3 h0
      have hg := c.gl hgi
      split
      · rename_i hd
        split
        · exact pe_cBad
        · rename_i hh
          cases ek : kwNames kws with
          | none => exact pe_cBad
          | some ks =>
            dsimp only
            cases ep : d.T.plan (x, none) args.length ks with
            | none => exact pe_cBad
            | some g => exact call_def c h hn hg hs hd (Bool.not_eq_true _ ▸ hh) ek ep
      · split
        · rename_i hd
          split
          · exact pe_cBad
          · rename_i hh
            cases ek : kwNames kws with
            | none => exact pe_cBad
            | some ks =>
              dsimp only
              cases ep : d.T.plan (x, some "__init__") (args.length + 1) ks with
              | none => exact pe_cBad
              | some g => exact call_cls c h hn hg hs hd (Bool.not_eq_true _ ▸ hh) ek ep
        · split
          · rename_i hf
            have hm := c.tab.free _ hf
            cases kws with
            | cons _ _ => exact pe_cBad
            | nil =>
              cases args with
              | nil => exact pe_cBad
              | cons a as =>
                dsimp only
                cases e1 : biTab d x with
                | some g =>
                  obtain ⟨id, hv, hc⟩ := biTab_ok c e1
                  exact mi_bi hc hg hm hv (nmOk_3 hn) (nmOk_1 hn) hs (as_ok h _ hs)
                | none =>
                  dsimp only
                  cases e2 : btTab x with
                  | some g =>
                    obtain ⟨id, hv, hc⟩ := btTab_ok (X := X) e2
                    exact mi_bity hc hg hm hv (nmOk_3 hn) (nmOk_1 hn) hs (as_ok h _ hs)
                  | none => exact pe_cBad
          · exact pe_cBad
    · exact pe_cBad
  | Attribute o name apos =>
    unfold callE
    dsimp only
    split
    · rename_i h0
      simp only [Bool.and_eq_true, Bool.not_eq_true'] at h0
      obtain ⟨⟨⟨⟨hb, hl⟩, hs⟩, hn⟩, hh⟩ := h0
      cases ek : kwNames kws with
      | none => exact pe_cBad
      | some ks => exact mi_meth c.tab ((c.room hh).mono (Nat.le_succ _)) c.tk (base_ok hb) hl hs ek hn (h o) (as_ok h args hs) (fun e => as_nil e) (kw_ok' h kws)
    · exact pe_cBad
  | _ => exact pe_cBad
/-! ### what is walked -/
theorem folded_ok {e : Expr} {env : Env} (h : noSet e = true) : ∀ x, foldedSetIterable e env x = pure x := by
  intro x
  unfold foldedSetIterable
  cases e <;> first | rfl | cases h
theorem it_ok (c : CtxE X W k d) (h : ∀ e, PE X e (tE (cn X) W (R.e d e))) (tg iter : Expr) : PI X tg iter (tIt (cn X) W (iE R d tg iter)) := by
  have dflt : ∀ e : Expr, PI X tg e (tIt (cn X) W (cIt (R.e d e))) := fun e => pi_val (h e)
  unfold iE
  split
  · rename_i x p args pos
    split
    · rename_i h0
      obtain ⟨hgi, hf, hs⟩ := and3 h0
      have hg := c.gl hgi
      have hm := c.tab.free _ hf
      split
      · rename_i e
        subst e
        cases args with
        | nil => exact pi_bad
        | cons a as => cases as with
          | nil => exact pi_rng1 (by simpa using hs) hg hm (as_ok h _ hs)
          | cons b bs => cases bs with
            | nil =>
              have hs' : noStar a = true ∧ noStar b = true := by simpa using hs
              exact pi_rng2 hs'.1 hs'.2 hg hm (as_ok h _ hs)
            | cons _ _ => exact pi_bad
      · split
        · rename_i e
          subst e
          cases args with
          | nil => exact pi_bad
          | cons a as => cases as with
            | nil =>
              cases tg with
              | Tuple es kk tp => exact pi_enumU (by simpa using hs) hg hm (as_ok h _ hs)
              | _ => exact pi_bad
            | cons _ _ => exact pi_bad
        · exact dflt _
    · exact dflt _
  · exact dflt _
/-! ### comprehensions -/
theorem CtxE.blk (c : CtxE X W k d) {scope : Scope} (ok : BlkOk d.N d.sc scope (ownOf d.N scope.names)) (s : Shared) (H : Hp) (C : Addr) (cl : List (Str × Addr)) (fp : List Addr) : CtxE (X.blk s H scope (compEnvC scope cl C X.env) fp) W0 k (d.blk scope) where
  sc := by
    show relabel scope X.env = relS scope d.sc
    rw [← c.sc]
    rfl
  N := c.N
  nd := c.nd
  tk := takes_none5
  un := c.un
  room := c.room
  calm := c.calm
  fn := fun x hx => by
    unfold okSt at hx
    have es : (compEnvC scope cl C X.env).scope = (d.blk scope).sc := by
      show relabel scope X.env = relS scope d.sc
      rw [← c.sc]
      rfl
    show (scope.names.lookup x == some .cell) = true ∨ (compEnvC scope cl C X.env).scope.names.lookup x = some .local
    rw [es]
    cases e : (d.blk scope).sc.names.lookup x with
    | none =>
      rw [e] at hx
      cases hx
    | some kd =>
      rw [e] at hx
      cases kd with
      | «local» => exact .inr rfl
      | cell =>
        refine .inl ?_
        have hx' : (match scope.names.lookup x with
          | some .cell => true
          | _ => false) = true := hx
        cases e2 : scope.names.lookup x with
        | none =>
          rw [e2] at hx'
          cases hx'
        | some k2 =>
          rw [e2] at hx'
          cases k2 <;> first | rfl | cases hx'
      | _ => cases hx
  kind := ok.kind
  tab := c.tab
theorem lc_pre {R : DenR} {d : DC} {tg iter : Expr} {scope : Scope} {a : Int} (h : (decide (a = 0) && blkC d.N d.sc scope (ownOf d.N scope.names) && ((R.l (d.blk scope) tg).all fun i => decide (i ∈ (ownOf d.N scope.names).map (·.2))) && noSet iter && !d.hot) = true) :
    a = 0 ∧ BlkOk d.N d.sc scope (ownOf d.N scope.names) ∧ (∀ i ∈ R.l (d.blk scope) tg, i ∈ (ownOf d.N scope.names).map (·.2)) ∧ noSet iter = true ∧ d.hot = false := by
  simp only [Bool.and_eq_true, Bool.not_eq_true', decide_eq_true_eq, List.all_eq_true] at h
  exact ⟨h.1.1.1.1, blkOk_by h.1.1.1.2, h.1.1.2, h.1.2, h.2⟩
theorem lc_ok (S : Snd R) (c : CtxE X W k d) (elt : Expr) (gens : List Comprehension) (scope : Scope) (pos : Pos) : PE X (.ListComp elt gens scope pos) (tE (cn X) W (lcE R d elt gens scope pos)) := by
  unfold lcE
  split
  · rename_i tg iter ifs a
    split
    · rename_i h0
      obtain ⟨rfl, bo, hL, hns, hh⟩ := lc_pre h0
      have bo' : BlkOk X.N X.env.scope scope (ownOf d.N scope.names) := by rw [c.N, c.sc]; exact bo
      have hi := it_ok c (S.e c) tg iter
      have g := fun (s : Shared) (H : Hp) (C : Addr) (cl : List (Str × Addr)) (fp : List Addr) => S.g (c.blk bo s H C cl fp) tg
      have ee := fun (s : Shared) (H : Hp) (C : Addr) (cl : List (Str × Addr)) (fp : List Addr) => S.e (c.blk bo s H C cl fp) elt
      cases ifs with
      | nil => exact mi_lc (c.calm hh) c.nd hL hi bo' g (fun _ _ _ _ _ => mpts_nil) ee (folded_ok hns)
      | cons q ifs => cases ifs with
        | nil => exact mi_lc (c.calm hh) c.nd hL hi bo' g (fun s H C cl fp => pts_one (S.t (c.blk bo s H C cl fp) q)) ee (folded_ok hns)
        | cons _ _ => exact pe_cBad
    · exact pe_cBad
  · exact pe_cBad
theorem setlc_ok (S : Snd R) (c : CtxE X W k d) {y : Str} {py spos : Pos} {i : Nat} (hy : ixOf d.N y = some i) (elt : Expr) (gens : List Comprehension) (scope : Scope) (pos : Pos) (hsw : swB d y py pos scope = true) :
    PS X (.Assign [.Name y py] (.ListComp elt gens scope pos) spos) (tS (cn X) W (sAsg (lcE R d elt gens scope pos) (gName i))) := by
  have bad : ∀ e : Expr, PS X (.Assign [.Name y py] e spos) (tS (cn X) W (sAsg cBad (gName i))) := fun e => PS.bad fun D s H ⟨r, m, t, C, E, kk⟩ => kk
  unfold swB at hsw
  simp only [Bool.and_eq_true, Bool.not_eq_true'] at hsw
  obtain ⟨⟨s1, s2⟩, s3⟩ := hsw
  have hl : X.env.scope.names.lookup y = some .local := by rw [c.sc]; exact eq_of_beq s1
  unfold lcE
  split
  · rename_i tg iter ifs a
    split
    · rename_i h0
      obtain ⟨rfl, bo, hL, hns, hh⟩ := lc_pre h0
      have bo' : BlkOk X.N X.env.scope scope (ownOf d.N scope.names) := by rw [c.N, c.sc]; exact bo
      have hi := it_ok c (S.e c) tg iter
      have g := fun (s : Shared) (H : Hp) (C : Addr) (cl : List (Str × Addr)) (fp : List Addr) => S.g (c.blk bo s H C cl fp) tg
      have ee := fun (s : Shared) (H : Hp) (C : Addr) (cl : List (Str × Addr)) (fp : List Addr) => S.e (c.blk bo s H C cl fp) elt
      cases ifs with
      | nil => exact ms_setLc (c.calm hh) c.nd (c.ix hy) hl (sw_true c.kind hl s2 s3) hL hi bo' g (fun _ _ _ _ _ => mpts_nil) ee (folded_ok hns)
      | cons q ifs => cases ifs with
        | nil => exact ms_setLc (c.calm hh) c.nd (c.ix hy) hl (sw_true c.kind hl s2 s3) hL hi bo' g (fun s H C cl fp => pts_one (S.t (c.blk bo s H C cl fp) q)) ee (folded_ok hns)
        | cons _ _ => exact bad _
    · exact bad _
  · exact bad _
theorem rev_ok {ix : Expr} (h : revIx ix = true) : ∃ k p1 p2 p3, ix = .Slice none none (some (.UnaryOp .USub (.Constant (.int 1) k p1) p2)) p3 := by
  unfold revIx at h
  split at h
  · exact ⟨_, _, _, _, rfl⟩
  · cases h
theorem sub_ok (c : CtxE X W k d) (h : ∀ e, PE X e (tE (cn X) W (R.e d e))) (e ix : Expr) (pos : Pos) : PE X (.Subscript e ix pos) (tE (cn X) W (subE R d e ix)) := by
  unfold subE
  split
  · rename_i hr
    obtain ⟨k1, p1, p2, p3, rfl⟩ := rev_ok hr
    exact mi_rev (h e)
  · have po : ∀ o : Option Expr, POk X W o (optE (R.e d) o) := fun o => by
      cases o with
      | none => exact po_none'
      | some e => exact po_some' (h e)
    have hu : X.A.units + 1 < cLine := by have := c.un; omega
    cases ix with
    | Slice lo hi st p =>
      cases st with
      | none => exact mi_slice (h e) (po lo) (po hi)
      | some _ => exact pe_cBad
    | _ => exact mi_idx hu rfl (h e) (h _)
theorem stepE_ok (S : Snd R) (c : CtxE X W k d) (e : Expr) : PE X e (tE (cn X) W (stepE R d e)) := by
  have h := S.e c
  unfold stepE
  split
  · exact con_ok c _ _ _
  · exact name_ok c _ _
  · rename_i a op b pos
    cases eo : opU op with
    | none => exact pe_cBad
    | some g => exact mi_bin (opU_ok eo) (h a) (h b)
  · exact mi_notV (h _)
  · exact mi_un un_negU (h _)
  · exact v_ok h _ _ _
  · exact cmp_ok c h _ _ _ _
  · exact mi_if (S.t c _) (h _) (h _)
  · split
    · rename_i hs
      exact mi_tup (as_ok h _ hs)
    · exact pe_cBad
  · split
    · rename_i hs
      split
      · exact mi_lst (as_ok h _ hs)
      · exact mi_fl (as_ok h _ hs)
    · exact pe_cBad
  · exact mi_dic
  · exact sub_ok c h _ _ _
  · split
    · rename_i hb
      exact mi_fld c.tab (h _) (base_ok hb)
    · exact pe_cBad
  · exact call_ok c h _ _ _ _
  · exact lc_ok S c _ _ _ _
  · exact pe_cBad
theorem plainT_ok {e : Expr} (h : plainT e = true) (env : Env) : ∀ whole, isTrue e env whole = (do let v ← whole; standAt e.pos; holding [v] (truthy v)) := by
  cases e <;> first | (intro _; rfl) | cases h
theorem stepT_ok (S : Snd R) (c : CtxE X W k d) (e : Expr) : PT X e (tTs (cn X) W (stepT R d e)) := by
  have h := S.e c
  unfold stepT
  split
  · exact mi_not (S.t c _)
  · exact (w_ok (S.t c) _ _ _).pt
  · exact cmpT_ok c h _ _ _ _
  · split
    · rename_i hp
      exact mi_truth (h _) (plainT_ok hp _)
    · exact pt_cBad
theorem gs_ok (h : ∀ e, PG X e (tGt (cn X) (R.l d e) (R.g d e))) : ∀ es : List Expr, es.all noStar = true → PGs X es (tGts (cn X) (es.flatMap (R.l d)) (es.map (R.g d)))
  | [], _ => mgs_nil
  | e :: es, hs => by
    rw [List.all_cons, Bool.and_eq_true] at hs
    exact mgs_cons hs.1 (h e) (gs_ok h es hs.2)
theorem loc_ok (c : CtxE X W k d) {x : Str} (h : okSt d x = true) : Loc X.env.scope x := by
  unfold okSt at h
  show X.env.scope.names.lookup x = some .local ∨ X.env.scope.names.lookup x = some .cell
  rw [c.sc]
  cases e : d.sc.names.lookup x with
  | none =>
    rw [e] at h
    cases h
  | some kd =>
    rw [e] at h
    cases kd with
    | «local» => exact .inl rfl
    | cell => exact .inr rfl
    | _ => cases h
theorem stepG_ok (S : Snd R) (c : CtxE X W k d) (e : Expr) : PG X e (tGt (cn X) (stepL R d e) (stepG R d e)) := by
  have h := S.e c
  unfold stepG
  split
  · rename_i x pos
    cases ei : ixOf d.N x with
    | none => exact pg_gBad
    | some i =>
      dsimp only
      split
      · rename_i hs
        show PG X _ (tGt (cn X) (match ixOf d.N x with
          | some i => [i]
          | none => []) _)
        rw [ei]
        exact mg_name c.nd (c.ix ei) (loc_ok c hs) (c.fn x hs)
      · exact pg_gBad
  · rename_i es kk pos
    split
    · rename_i hs
      simp only [Bool.and_eq_true, Bool.not_eq_true'] at hs
      exact mg_tup (c.calm hs.1) hs.2 (gs_ok (S.g c) es hs.2) (by rw [List.length_map])
    · exact pg_gBad
  · split
    · rename_i hs
      exact mg_sub (by have := c.un; omega) (h _) (h _) hs
    · exact pg_gBad
  · exact mg_fld c.tab (h _)
  · exact pg_gBad
end
end Mi
/-! Mi, part S: the interpreter tells what the model does: statements; all of it. -/
namespace Mi
open PySem PySem.Spec PyProof.Rows L2
set_option linter.unusedVariables false
section
variable {X : Cx} {W : WX} {k : Nat} {d : DC} {R : DenR}
theorem ps_sBad {st : Stmt} : PS X st (tS (cn X) W sBad) := PS.bad fun D s H ⟨r, m, t, C, E, kk⟩ => kk
theorem b_ok {f : Stmt → S1} (h : ∀ st, PS X st (tS (cn X) W (f st))) : ∀ l : List Stmt, PSs X l (tS (cn X) W (bOf f l))
  | [] => ms_nx
  | st :: r => ms_cons (h st) (b_ok h r)
theorem swaps_false {e : Expr} {tg : Option Expr} {l : Nat} {env : Env} (h : isComp e = false) : swapsWith e tg l env = pure false := by
  unfold swapsWith
  cases e <;> first | rfl | cases h
theorem swaps_other {e tg : Expr} {l : Nat} {env : Env} (h : ∀ y p, tg ≠ .Name y p) : swapsWith e (some tg) l env = pure false := by
  unfold swapsWith
  cases e <;> first | rfl | (cases tg <;> first | rfl | exact absurd rfl (h _ _))
theorem swaps_name (c : CtxE X W k d) {elt : Expr} {gens : List Comprehension} {scope : Scope} {pos py : Pos} {y : Str} {l : Nat} (h : swB d y py pos scope = false) : swapsWith (.ListComp elt gens scope pos) (some (.Name y py)) l X.env = pure false := by
  unfold swapsWith
  dsimp only
  have hb : X.env.blockKind = .function := by unfold Env.blockKind; rw [c.kind]; rfl
  unfold swB at h
  have hk : X.env.kindOf y = d.sc.names.lookup y := by rw [← c.sc]; rfl
  rw [hb, hk]
  have h2 : ((ScopeKind.function == ScopeKind.function) && d.sc.names.lookup y == some .local && py.line == (Expr.ListComp elt gens scope pos).pos.line && !(scope.names.any fun (n, k) => n == y && (k == .local || k == .cell))) = false := by
    rw [show (ScopeKind.function == ScopeKind.function) = true from rfl, Bool.true_and]
    exact h
  exact congrArg pure h2
theorem noSwap_ok {tg e : Expr} {env : Env} (h : noSwap tg e = true) : swappedStores [tg] e env = pure none := by
  unfold swappedStores
  cases tg <;> first | rfl | (cases e <;> first | rfl | cases h)
theorem sole_ok {tg : Expr} {env : Env} (h : noStar tg = true) : (assignEach [tg] env).map (·.2) = [assign tg env] := by
  rw [each_cons h]
  rfl
theorem asg_ok (S : Snd R) (c : CtxE X W k d) (tg e : Expr) (pos : Pos) : PS X (.Assign [tg] e pos) (tS (cn X) W (asgS R d tg e)) := by
  have gen : noStar tg = true → noSwap tg e = true → swapsWith e (some tg) pos.line X.env = pure false → PS X (.Assign [tg] e pos) (tS (cn X) W (sAsg (R.e d e) (R.g d tg))) := fun h1 h2 hs =>
    ms_asg (S.e c e) (S.g c tg) hs (noSwap_ok h2) (sole_ok h1)
  unfold asgS
  split
  · rename_i y py elt gens scope lp
    split
    · rename_i hw
      cases ei : ixOf d.N y with
      | none => exact ps_sBad
      | some i => exact setlc_ok S c ei elt gens scope lp hw
    · rename_i hw
      exact gen rfl rfl (swaps_name c (Bool.not_eq_true _ ▸ hw))
  · rename_i hne
    split
    · rename_i hh
      obtain ⟨h1, h2, h3⟩ := and3 hh
      refine gen h1 h2 ?_
      by_cases hn : ∃ y p, tg = .Name y p
      · obtain ⟨y, p, rfl⟩ := hn
        cases e with
        | ListComp elt gens scope lp => exact absurd rfl (hne y p elt gens scope lp rfl)
        | SetComp _ _ _ _ => cases h3
        | DictComp _ _ _ _ _ => cases h3
        | _ => exact swaps_false rfl
      · exact swaps_other fun y p ey => hn ⟨y, p, ey⟩
    · exact ps_sBad
theorem raise_ok (c : CtxE X W k d) (e : Expr) (pos : Pos) : PS X (.Raise (some e) none pos) (tS (cn X) W (raiseS d e)) := by
  unfold raiseS
  split
  · split
    · rename_i hh
      simp only [Bool.and_eq_true, Bool.not_eq_true'] at hh
      obtain ⟨⟨⟨h1, h2⟩, h3⟩, h4⟩ := hh
      exact ms_raise c.tab (c.calm h1) c.tk h2 (c.gl h3) (nmOk_1 h4)
    · exact ps_sBad
  · exact ps_sBad
/-- the body of a try -/
theorem CtxS.tr (c : CtxS X W k d) {W' : WX} {pn : List (Addr × Obj)} {xe : Value → Shared → Prop} (tk : Takes (X.tr pn xe) W') (hp : PassesOwn (model X.prog X.w) X.A X.env xe) : CtxS (X.tr pn xe) W' k d where
  sc := c.sc
  N := c.N
  nd := c.nd
  tk := tk
  un := c.un
  room := c.room
  calm := c.calm
  fn := c.fn
  kind := c.kind
  tab := c.tab
  ex := c.ex
  stk := c.stk
  fr := c.fr
  pass := hp
/-- an except suite -/
theorem CtxS.suite (c : CtxS X W k d) (a : Addr) (pn : List (Addr × Obj)) : CtxS (X.suite a pn) W0 k { d with hot := true } where
  sc := c.sc
  N := c.N
  nd := c.nd
  tk := takes_none5
  un := c.un
  room := fun h => (nomatch h)
  calm := fun h => (nomatch h)
  fn := c.fn
  kind := c.kind
  tab := c.tab
  ex := c.ex
  stk := c.stk
  fr := c.fr
  pass := PassesOwn.never
theorem hd_ok (S : Snd R) (c : CtxS X W k d) : ∀ {hs : List ExceptHandler} {l : List Hd}, hdOf R d hs = some l → HdM X hs l ∧ HdK X l
  | [], l, h => by
    cases h
    exact ⟨.nil, fun _ hh => (nomatch hh)⟩
  | h0 :: r, l, h => by
    unfold hdOf at h
    cases e1 : hd1 R d h0 with
    | none =>
      rw [e1] at h
      cases h
    | some a =>
      rw [e1] at h
      cases e2 : hdOf R d r with
      | none =>
        rw [e2] at h
        cases h
      | some l' =>
        rw [e2] at h
        cases h
        obtain ⟨h1, h2⟩ := hd_ok S c e2
        have key : ∀ {x : Str} (y : Hd), y.cls = x → d.T.glo x = true → HdK X (y :: l') := fun {x} y hy hgl h hh => by
          rcases List.mem_cons.mp hh with rfl | hh
          · rw [hy]
            exact c.tab.glo _ hgl
          · exact h2 h hh
        unfold hd1 at e1
        split at e1
        · rename_i x np on b suite p'
          split at e1
          · rename_i h0
            obtain ⟨hn, hg, hgl⟩ := and3 h0
            cases on with
            | none =>
              cases e1
              exact ⟨.cons (c.gl hg) (nmOk_1 hn) (fun a pn => b_ok (S.s (c.suite a pn)) (b :: suite)) h1, key _ rfl hgl⟩
            | some n =>
              dsimp only at e1
              split at e1
              · rename_i i ei el
                cases e1
                exact ⟨.named (c.gl hg) (nmOk_1 hn) c.nd (c.ix ei) (show X.env.scope.names.lookup n = some .local by rw [c.sc]; exact el) (fun a pn => b_ok (S.s (c.suite a pn)) (b :: suite)) h1, key _ rfl hgl⟩
              · cases e1
          · cases e1
        · cases e1
theorem stepS_ok (S : Snd R) (c : CtxS X W k d) (st : Stmt) : PS X st (tS (cn X) W (stepS R d st)) := by
  have h := S.e c.toCtxE
  unfold stepS
  split
  · rename_i e pos
    split
    · exact ps_sBad
    · rename_i hc
      exact ms_drop (h e) (swaps_false (Bool.not_eq_true _ ▸ hc))
  · exact asg_ok S c.toCtxE _ _ _
  · exact ms_retN
  · exact ms_ret (h _)
  · exact ms_if (S.t c.toCtxE _) (b_ok (S.s c) _) (b_ok (S.s c) _)
  · split
    · rename_i hh
      simp only [Bool.and_eq_true, Bool.not_eq_true'] at hh
      exact ms_for c.pass (c.calm hh.1) (it_ok c.toCtxE h _ _) (S.g c.toCtxE _) (b_ok (S.s c) _) (folded_ok hh.2)
    · exact ps_sBad
  · split
    · exact ps_sBad
    · exact ms_while c.pass (S.t c.toCtxE _) (b_ok (S.s c) _)
  · exact ms_pass
  · exact ms_break
  · exact ms_cont
  · exact raise_ok c.toCtxE _ _
  · split
    · exact ps_sBad
    · rename_i hh
      split
      · rename_i l el
        obtain ⟨h1, h2⟩ := hd_ok S c el
        exact ms_try c.tab c.ex c.stk c.fr c.tk (fun W' pn xe tk hp => b_ok (S.s (c.tr tk hp)) _) h1 h2
      · exact ps_sBad
  · exact ps_sBad
end
theorem snd_bad : Snd denBad where
  e := fun _ _ => pe_cBad
  t := fun _ _ => pt_cBad
  g := fun _ _ => pg_gBad
  s := fun _ _ => ps_sBad
theorem snd_step {R : DenR} (S : Snd R) : Snd (stepR R) where
  e := fun c e => stepE_ok S c e
  t := fun c e => stepT_ok S c e
  g := fun c e => stepG_ok S c e
  s := fun c st => stepS_ok S c st
theorem snd : ∀ n, Snd (den n)
  | 0 => snd_bad
  | n + 1 => snd_step (snd n)
end Mi
/-! Mi, part T: defs; what they promise at each depth; a law's end. -/
namespace Mi
open PySem PySem.Spec PyProof.Rows L2
set_option linter.unusedVariables false
/-- a def: its datum, its parameters, its slots -/
structure De where
  d : He.DefD
  ps : List Str
  N : List Str
/-- what stands behind the top, by names -/
structure Sta where
  df : FKey → Option De
  plan : FKey → Nat → List Str → Option (List U → List U → List U)
  isDef : Str → Bool
  isCls : Str → Bool
  meth : Str → Str → Bool
  fld : Str → Str → Bool
  con : Str → Option U
  glo : Str → Bool
  free : Str → Bool
  exc : Str → Bool
  sub : Str → Str → Option Bool
  isa : Str → U → Option Bool
  fuel : Nat
  heapAt : Pos → Bool
def Sta.tab (S : Sta) (call : FKey → List U → MH → Out U) : Tab where
  call := call
  plan := S.plan
  isDef := S.isDef
  isCls := S.isCls
  meth := S.meth
  fld := S.fld
  con := S.con
  glo := S.glo
  free := S.free
  exc := S.exc
  sub := S.sub
  isa := S.isa
  fuel := S.fuel
  heapAt := S.heapAt
def startU (N : List Str) (us : List U) : Env1 := us.map some ++ List.replicate (N.length - us.length) none
def endO : SO → Out U
  | .nx _ m => .ok .non m
  | .rt u m => .ok u m
  | .err x _ m => .err x m
  | _ => .bad
def dcOf (T : Tab) (f : De) : DC := ⟨T, f.N, f.d.scope, none, false⟩
/-- the code's nesting is below this -/
def deep : Nat := 40
def bodyU (T : Tab) (f : De) : S1 := bOf ((den deep).s (dcOf T f)) f.d.body
def runDf (T : Tab) (f : De) (us : List U) (m : MH) : Out U := if us.length = f.ps.length then endO (bodyU T f (startU f.N us) m) else .bad
def callN (S : Sta) : Nat → FKey → List U → MH → Out U
  | 0 => fun _ _ _ => .bad
  | n + 1 => fun key us m => match S.df key with
    | none => .bad
    | some f => runDf (S.tab (callN S n)) f us m
section
variable {P : Program} {w : World} {K : PySem.W.Frag} {mg : Str → Option Value} {base : Heap}
theorem start_ok {c : Cn} {r : Gh} {H : Hp} {N : List Str} : ∀ {us : List U} {vs : List V}, RUs c r H us vs → EnvR c r H (startU N us) (L2.start N vs) := by
  intro us vs h
  have hl := h.length
  refine ⟨?_, fun i u hi => ?_⟩
  · unfold startU L2.start
    rw [List.length_append, List.length_append, List.length_map, List.length_map, hl, List.length_replicate, List.length_replicate]
  · unfold startU at hi
    by_cases hlt : i < us.length
    · rw [List.getElem?_append_left (by rw [List.length_map]; exact hlt), List.getElem?_map] at hi
      cases e : us[i]? with
      | none =>
        rw [e] at hi
        cases hi
      | some u' =>
        rw [e] at hi
        cases hi
        obtain ⟨x, h1, h2⟩ := h.get e
        refine ⟨x, ?_, h2⟩
        unfold L2.start
        rw [List.getElem?_append_left (by rw [List.length_map, ← hl]; exact hlt), List.getElem?_map, h1]
        rfl
    · rw [List.getElem?_append_right (by rw [List.length_map]; omega)] at hi
      rw [List.getElem?_replicate] at hi
      split at hi <;> cases hi
theorem fn_den {n : Nat} {k : Nat} {f : De} {T : Tab} {dvs : List V} {kws : List (Str × V)} {fa : Addr} {fd : FuncData} (F : FunD K f.d.name f.d.qual f.d.params f.d.body f.d.scope dvs kws fa fd) (Sc : FnScope f.N f.ps f.d.scope) (tab : TabOk T P w K mg base k) :
    FnOk P w K mg base (L2.CX P w) (k + 2) fa fd f.ps (spU ⟨K, mg⟩ f.ps.length (runDf T f)) := by
  refine F.ok Sc (fun vs H Q E h => spU_len h) (fun cdv A outer s H vs Q E hr h => ?_)
  have ctx : CtxS (cxOf (L2.CX P w) P w K mg base f.N f.d.qual f.d.scope fa cdv A outer s H E) (fun cls d _ H => E cls d H) k (dcOf T f) :=
    { sc := rfl
      N := rfl
      nd := Sc.nd
      tk := takes_of rfl rfl rfl rfl
      un := by
        have := hr.un
        show (A.deeper _).units + 65 < cLine
        omega
      room := fun _ => hr
      calm := fun _ => rfl
      fn := fun _ _ => .inl rfl
      kind := Sc.kind
      tab := tab
      ex := rfl
      stk := rfl
      fr := rfl
      pass := passes_of rfl }
  refine ⟨_, b_ok ((snd deep).s ctx) f.d.body, ?_⟩
  obtain ⟨r, m, us, C, rs, hl, kk⟩ := h
  refine ⟨r, m, startU f.N us, C, start_ok rs, ?_⟩
  unfold runDf at kk
  rw [if_pos hl] at kk
  show kS _ _ r H _ (bodyU T f (startU f.N us) m)
  cases e : bodyU T f (startU f.N us) m with
  | nx t' m' =>
    rw [e] at kk
    exact fun r' H' s' ex C' E' => kk r' H' .non ex C' .non
  | rt u m' =>
    rw [e] at kk
    exact kk
  | bk t' m' =>
    rw [e] at kk
    exact kk.elim
  | ct t' m' =>
    rw [e] at kk
    exact kk.elim
  | err x t' m' =>
    rw [e] at kk
    exact fun r' H' s' cls d ex C' E' xr => kk r' H' cls d ex C' xr
  | bad =>
    rw [e] at kk
    exact kk
/-- a def stands where it should, binds as it should -/
def FnFact (S : Sta) (K : PySem.W.Frag) (mg : Str → Option Value) (key : FKey) (f : Addr) : Prop :=
  ∃ (e : De) (fd : FuncData), S.df key = some e ∧ FunD K e.d.name e.d.qual e.d.params e.d.body e.d.scope (e.d.dvs K) (e.d.kws K) f fd ∧ FnScope e.N e.ps e.d.scope ∧ ∀ n ks g, S.plan key n ks = some g → BindU ⟨K, mg⟩ fd e.ps n ks g
structure StaOk (S : Sta) (K : PySem.W.Frag) (mg : Str → Option Value) : Prop where
  def_ : ∀ x, S.isDef x = true → ∃ f, mg x = some (.ref f) ∧ PySem.W.keepIn K (.ref f) = true ∧ FnFact S K mg (x, none) f
  cls : ∀ x, S.isCls x = true → ∃ C f, mg x = some (.ref C) ∧ Mk K C f ∧ FnFact S K mg (x, some "__init__") f
  meth : ∀ x m, S.meth x m = true → ∃ C f, mg x = some (.ref C) ∧ Cls K C ∧ Meth K C m f ∧ FnFact S K mg (x, some m) f
  fld : ∀ x f, S.fld x f = true → ∃ C, mg x = some (.ref C) ∧ Cls K C ∧ NoAttr K C f
  con : ∀ x u, S.con x = some u → ∃ v val, mg x = some val ∧ RelV v val ∧ ∀ r H, RU ⟨K, mg⟩ r H u v
  glo : ∀ x, S.glo x = true → ∃ a, mg x = some (.ref a)
  free : ∀ x, S.free x = true → mg x = none
  exc : ∀ x, S.exc x = true → ∃ C, mg x = some (.ref C) ∧ PySem.W.excIn K C [.type "ValueError", .type "Exception", .type "BaseException", .type "object"] "ValueError.__new__" = true ∧ PySem.W.keepIn K (.ref C) = true ∧ PySem.W.subIn K (.ref C) (.type "BaseException") = some true ∧ PySem.W.typeIn K (.ref C) = some (.type "type")
  sub : ∀ x y b, S.sub x y = some b → ∃ C D, mg x = some (.ref C) ∧ mg y = some (.ref D) ∧ PySem.W.exmOne K (.ref C) (.ref D) = some b
  isa : ∀ x u b, S.isa x u = some b → ∃ C cv, mg x = some (.ref C) ∧ ExcC K C ∧ clV mg u cv ∧ PySem.W.kitOne K (.ref C) cv = some b
theorem fn_call0 {S : Sta} {key : FKey} {f : Addr} {e : De} {fd : FuncData} {dvs : List V} {kws : List (Str × V)} (h1 : S.df key = some e) (F : FunD K e.d.name e.d.qual e.d.params e.d.body e.d.scope dvs kws f fd) (Sc : FnScope e.N e.ps e.d.scope) {n : Nat} (tab : ∀ j, j < n → TabOk (S.tab (callN S j)) P w K mg base (2 * j)) :
    FnOk P w K mg base (L2.CX P w) (2 * n) f fd e.ps (spU ⟨K, mg⟩ e.ps.length (callN S n key)) := by
  cases n with
  | zero =>
    have no : ∀ {vs H Q E}, ¬ spU ⟨K, mg⟩ e.ps.length (callN S 0 key) vs H Q E := fun ⟨_, _, _, _, _, _, k⟩ => k
    exact ⟨fun vs H Q E h => (no h).elim, fun A outer s H args us vs Q E hr he hb hv hs => (no hs).elim⟩
  | succ n =>
    have t := fn_den (n := n) F Sc (tab n (Nat.lt_succ_self n))
    have ec : callN S (n + 1) key = runDf (S.tab (callN S n)) e := by
      funext us m
      show (match S.df key with
        | none => Out.bad
        | some f => runDf (S.tab (callN S n)) f us m) = _
      rw [h1]
    rw [ec]
    exact t
theorem fn_call {S : Sta} {key : FKey} {f : Addr} (h : FnFact S K mg key f) {n : Nat} (tab : ∀ j, j < n → TabOk (S.tab (callN S j)) P w K mg base (2 * j)) :
    ∃ fd ps, FnOk P w K mg base (L2.CX P w) (2 * n) f fd ps (spU ⟨K, mg⟩ ps.length (callN S n key)) ∧ ∀ n ks g, S.plan key n ks = some g → BindU ⟨K, mg⟩ fd ps n ks g := by
  obtain ⟨e, fd, h1, F, Sc, hB⟩ := h
  exact ⟨fd, e.ps, fn_call0 h1 F Sc tab, hB⟩
theorem tab_ok {S : Sta} (h : StaOk S K mg) : ∀ n, TabOk (S.tab (callN S n)) P w K mg base (2 * n) := by
  intro n
  induction n using Nat.strongRecOn with
  | ind n ih =>
    exact
      { def_ := fun x hx => by
          obtain ⟨f, h1, h2, h3⟩ := h.def_ x hx
          obtain ⟨fd, ps, h4, h5⟩ := fn_call h3 ih
          exact ⟨f, fd, ps, h1, h2, h4, h5⟩
        cls := fun x hx => by
          obtain ⟨C, f, h1, h2, h3⟩ := h.cls x hx
          obtain ⟨fd, ps, h4, h5⟩ := fn_call h3 ih
          exact ⟨C, f, fd, ps, h1, h2, h4, h5⟩
        meth := fun x m hx => by
          obtain ⟨C, f, h1, h2, h3, h6⟩ := h.meth x m hx
          obtain ⟨fd, ps, h4, h5⟩ := fn_call h6 ih
          exact ⟨C, f, fd, ps, h1, h2, h3, h4, h5⟩
        fld := h.fld
        con := h.con
        glo := h.glo
        free := h.free
        exc := h.exc
        sub := h.sub
        isa := h.isa }
/-- how a plain call binds: all parameters, by place -/
theorem bind_all {e : De} {f : Addr} {fd : FuncData} (F : FunD K e.d.name e.d.qual e.d.params e.d.body e.d.scope [] (e.d.kws K) f fd)
    (h : ∀ (kV doc pm : Value) (an : Option Addr) (cdv ct : Value) (us : List Value), us.length = e.ps.length → bindArgs (PySem.W.fnOf e.d.name e.d.qual e.d.params e.d.body e.d.scope .none kV doc pm an cdv ct) ⟨us, []⟩ = pure (e.ps.zip us)) :
    BindU ⟨K, mg⟩ fd e.ps e.ps.length [] (fun as _ => as) := by
  have b := F.bindsA (ps := e.ps) h
  refine ⟨⟨fun us _ => us, fun vs _ => vs, ⟨fun s us ws _ hl hw => ?_, fun r _ => r⟩, fun r H as bs vs zs rs _ hl _ => ⟨rs, hl⟩⟩⟩
  show BindsTo s fd ⟨us, List.zip [] ws⟩ (e.ps.zip us)
  exact b s us hl
end
/-! ### the head: any check of the written part, and the defs -/
abbrev AlU : Type := Bool × List He.FnW
def obsU (chk : PySem.W.Frag → Bool) (fn : List He.DefD) (K : PySem.W.Frag) : AlU := (chk K && fn.all fun d => d.ok K, fn.map fun d => He.fnW K d.at_)
def valU (fn : List He.DefD) : AlU := (true, fn.map He.DefD.val)
def SaysU (chk : PySem.W.Frag → Bool) (fn : List He.DefD) (K : PySem.W.Frag) : Prop := obsU chk fn K = valU fn
def obsUG (n : Nat) (chk : PySem.W.Frag → Bool) (fn : List He.DefD) (g : Addr → Option Obj) : AlU := obsU chk fn (He.frG g (He.asD g n))
def hookU (n : Nat) (chk : PySem.W.Frag → Bool) (fn : List He.DefD) : PySem.W.Hook where
  α := AlU
  obs := fun s => obsUG n chk fn s.heap.get?
  val := fun _ => valU fn
  says := fun _ h => ∃ K : PySem.W.Frag, K.In h ∧ SaysU chk fn K
  of := fun _ _ e => ⟨_, He.frG_in, e⟩
  keeps := fun _ _ _ ⟨K, hK, c⟩ k => ⟨K, PySem.W.Frag.In.keeps hK k, c⟩
theorem obsUG_eq {n : Nat} {chk : PySem.W.Frag → Bool} {fn : List He.DefD} {g : Addr → Option Obj} {s : Shared} (h : ∀ a, g a = s.heap.get? a) : obsUG n chk fn g = (hookU n chk fn).obs s := by
  have e : g = s.heap.get? := funext h
  rw [e] <;> rfl
section
variable {chk : PySem.W.Frag → Bool} {fn : List He.DefD} {K : PySem.W.Frag}
theorem SaysU.chk_ (c : SaysU chk fn K) : chk K = true := (He.ba (show (chk K && fn.all fun d => d.ok K) = true from congrArg (fun z : AlU => z.1) c)).1
theorem SaysU.def_ (c : SaysU chk fn K) {d : He.DefD} (h : d ∈ fn) : ∃ fd, FunD K d.name d.qual d.params d.body d.scope (d.dvs K) (d.kws K) (He.fAd K d.at_) fd := by
  have c2 := (He.ba (show (chk K && fn.all fun d => d.ok K) = true from congrArg (fun z : AlU => z.1) c)).2
  have e : fn.map (fun d => He.fnW K d.at_) = fn.map He.DefD.val := congrArg (fun z : AlU => z.2) c
  obtain ⟨i, hi⟩ := List.mem_iff_getElem?.mp h
  have e2 : (fn.map fun d => He.fnW K d.at_)[i]? = (fn.map He.DefD.val)[i]? := by rw [e]
  rw [List.getElem?_map, List.getElem?_map, hi] at e2
  exact He.DefD.funD (Option.some.inj e2) (List.all_eq_true.mp c2 d h)
end
end Mi
/-! Mi, part U: a law's data; what its head says. -/
namespace Mi
open PySem PySem.Spec PyProof.Rows L2
set_option linter.unusedVariables false
/-- a law's data -/
structure LD where
  es : List De
  con : List (Str × U)
  free : List Str
  glo : List Str
  exc : List Str
  sub : List (Str × List (Str × Bool))
  isa : List (Str × List (Str × Bool) × List (String × Bool))
  heaps : List (Nat × Nat)
  fuel : Nat
def findDe (key : FKey) : List De → Option De
  | [] => none
  | e :: r => if e.d.at_ = key then some e else findDe key r
theorem findDe_ok {key : FKey} {e : De} : ∀ {l : List De}, findDe key l = some e → e ∈ l ∧ e.d.at_ = key
  | [], h => by cases h
  | a :: r, h => by
    unfold findDe at h
    by_cases q : a.d.at_ = key
    · rw [if_pos q] at h
      cases h
      exact ⟨List.mem_cons_self, q⟩
    · rw [if_neg q] at h
      obtain ⟨h1, h2⟩ := findDe_ok h
      exact ⟨List.mem_cons_of_mem _ h1, h2⟩
def look {α : Type} (x : Str) : List (Str × α) → Option α
  | [] => none
  | (y, a) :: r => if y = x then some a else look x r
theorem look_mem {α : Type} {x : Str} {a : α} : ∀ {l : List (Str × α)}, look x l = some a → (x, a) ∈ l
  | [], h => by cases h
  | (y, b) :: r, h => by
    unfold look at h
    by_cases q : y = x
    · rw [if_pos q] at h
      cases h
      rw [q]
      exact List.mem_cons_self
    · rw [if_neg q] at h
      exact List.mem_cons_of_mem _ (look_mem h)
def lookN (n : String) : List (String × Bool) → Option Bool
  | [] => none
  | (y, a) :: r => if y = n then some a else lookN n r
theorem lookN_mem {n : String} {a : Bool} : ∀ {l : List (String × Bool)}, lookN n l = some a → (n, a) ∈ l
  | [], h => by cases h
  | (y, b) :: r, h => by
    unfold lookN at h
    by_cases q : y = n
    · rw [if_pos q] at h
      cases h
      rw [q]
      exact List.mem_cons_self
    · rw [if_neg q] at h
      exact List.mem_cons_of_mem _ (lookN_mem h)
def hasS (x : Str) : List Str → Bool
  | [] => false
  | y :: r => if y = x then true else hasS x r
theorem hasS_mem {x : Str} : ∀ {l : List Str}, hasS x l = true → x ∈ l
  | [], h => by cases h
  | y :: r, h => by
    unfold hasS at h
    by_cases q : y = x
    · rw [q]
      exact List.mem_cons_self
    · rw [if_neg q] at h
      exact List.mem_cons_of_mem _ (hasS_mem h)
def hasP (a b : Nat) : List (Nat × Nat) → Bool
  | [] => false
  | (x, y) :: r => if (Nat.beq x a && Nat.beq y b) = true then true else hasP a b r
def planOf (es : List De) (key : FKey) (n : Nat) : List Str → Option (List U → List U → List U)
  | [] => (match findDe key es with
    | some e => if (Nat.beq n e.ps.length && e.d.dfl.isEmpty) = true then some (fun as _ => as) else none
    | none => none)
  | _ :: _ => none
def isaOf (l : List (Str × List (Str × Bool) × List (String × Bool))) (x : Str) : U → Option Bool
  | .glo y => (look x l).bind fun p => look y p.1
  | .ty n => (look x l).bind fun p => lookN n p.2
  | _ => none
def LD.sta (L : LD) : Sta where
  df := fun key => findDe key L.es
  plan := planOf L.es
  isDef := fun x => (findDe (x, none) L.es).isSome
  isCls := fun _ => false
  meth := fun _ _ => false
  fld := fun _ _ => false
  con := fun x => look x L.con
  glo := fun x => hasS x L.glo
  free := fun x => hasS x L.free
  exc := fun x => hasS x L.exc
  sub := fun x y => (look x L.sub).bind (look y)
  isa := isaOf L.isa
  fuel := L.fuel
  heapAt := fun p => hasP p.line p.col L.heaps
/-- what isinstance asks of an exception's class -/
def excB (K : PySem.W.Frag) (D : Addr) : Bool :=
  He.eqO (PySem.W.findIn K (.ref D) "__getattribute__") (some (some (.builtin "BaseException.__getattribute__"))) && (He.eqO (PySem.W.findIn K (.ref D) "__getattr__") (some none) && (decide (PySem.W.subIn K (.ref D) (.type "BaseException") = some true) && (PySem.W.hasDictIn K D &&
    (He.eqO (PySem.W.findIn K (.ref D) "__class__") (some (some (.builtin "object.__class__"))) && (He.eqO (PySem.W.specialIn K (.builtin "object.__class__") "__get__") (some (some (.builtin "getset_descriptor.__get__"))) && (decide (PySem.W.takesIn K (.builtin "object.__class__") = some true) && decide (PySem.W.mroIn K D (.type "object") = some true)))))))
theorem excB_ok {K : PySem.W.Frag} {D : Addr} (h : excB K D = true) : ExcC K D := by
  unfold excB at h
  obtain ⟨h1, h⟩ := He.ba h
  obtain ⟨h2, h⟩ := He.ba h
  obtain ⟨h3, h⟩ := He.ba h
  obtain ⟨h4, h⟩ := He.ba h
  obtain ⟨h5, h⟩ := He.ba h
  obtain ⟨h6, h⟩ := He.ba h
  obtain ⟨h7, h8⟩ := He.ba h
  exact ⟨He.eqO_ok h1, He.eqO_ok h2, of_decide_eq_true h3, h4, He.eqO_ok h5, He.eqO_ok h6, of_decide_eq_true h7, of_decide_eq_true h8⟩
def conB (K : PySem.W.Frag) (x : Str) : U → Bool
  | .int i => (He.Fa.int x i).ok K
  | .str z => (He.Fa.str x z).ok K
  | _ => false
def LD.chk (L : LD) (K : PySem.W.Frag) : Bool :=
  (L.es.all fun e => match e.d.at_.2 with
    | none => (He.Fa.glo e.d.at_.1).ok K
    | some _ => true) && ((L.con.all fun p => conB K p.1 p.2) && ((L.free.all fun x => (He.Fa.free x).ok K) && ((L.glo.all fun x => (He.Fa.glo x).ok K) && ((L.exc.all fun x => (He.Fa.glo x).ok K && (He.Fa.exc x).ok K) &&
    ((L.sub.all fun p => (He.Fa.glo p.1).ok K && p.2.all fun q => (He.Fa.glo q.1).ok K && (He.Fa.exm p.1 q.1 q.2).ok K) &&
    (L.isa.all fun p => (He.Fa.glo p.1).ok K && (excB K (He.ga K p.1) && ((p.2.1.all fun q => (He.Fa.glo q.1).ok K && decide (PySem.W.kitOne K (.ref (He.ga K p.1)) (.ref (He.ga K q.1)) = some q.2)) &&
      (p.2.2.all fun q => decide (PySem.W.kitOne K (.ref (He.ga K p.1)) (.type q.1) = some q.2)))))))))) 
/-- what must be said of each def -/
def De.Ok (e : De) : Prop := FnScope e.N e.ps e.d.scope ∧ (e.d.dfl = [] → ∀ (kV doc pm : Value) (an : Option Addr) (cdv ct : Value) (us : List Value), us.length = e.ps.length → bindArgs (PySem.W.fnOf e.d.name e.d.qual e.d.params e.d.body e.d.scope .none kV doc pm an cdv ct) ⟨us, []⟩ = pure (e.ps.zip us))
section
variable {K : PySem.W.Frag} {h : Heap} {mg : Str → Option Value} {L : LD}
theorem sta_ok (X : K.In h) (G : h.Ns mainGlobals mg) (c : SaysU L.chk (L.es.map (·.d)) K) (hE : ∀ e ∈ L.es, e.Ok) : StaOk L.sta K mg := by
  have c1 := c.chk_
  unfold LD.chk at c1
  obtain ⟨k1, c1⟩ := He.ba c1
  obtain ⟨k2, c1⟩ := He.ba c1
  obtain ⟨k3, c1⟩ := He.ba c1
  obtain ⟨k4, c1⟩ := He.ba c1
  obtain ⟨k5, c1⟩ := He.ba c1
  obtain ⟨k6, k7⟩ := He.ba c1
  have glo : ∀ {x : Str}, (He.Fa.glo x).ok K = true → mg x = some (.ref (He.ga K x)) := fun q => He.glo_ok X G q
  have fact : ∀ (key : FKey) (e : De), findDe key L.es = some e → FnFact L.sta K mg key (He.fAd K key) := fun key e he => by
    obtain ⟨hm, hk⟩ := findDe_ok he
    obtain ⟨fd, F⟩ := c.def_ (List.mem_map_of_mem hm)
    obtain ⟨Sc, hb⟩ := hE e hm
    refine ⟨e, fd, he, by rw [← hk]; exact F, Sc, fun n ks g hp => ?_⟩
    cases ks with
    | cons _ _ => cases hp
    | nil =>
      have hp' : planOf L.es key n [] = some g := hp
      unfold planOf at hp'
      rw [he] at hp'
      dsimp only at hp'
      split at hp'
      · rename_i hh
        obtain ⟨q1, q2⟩ := He.ba hh
        cases hp'
        have en : n = e.ps.length := Nat.eq_of_beq_eq_true q1
        have ed : e.d.dfl = [] := List.isEmpty_iff.mp q2
        subst en
        have ev : e.d.dvs K = [] := by
          unfold He.DefD.dvs
          rw [ed]
          rfl
        rw [ev] at F
        exact bind_all F (hb ed)
      · cases hp'
  exact
    { def_ := fun x hx => by
        cases e1 : findDe (x, none) L.es with
        | none =>
          have hx' : (findDe (x, none) L.es).isSome = true := hx
          rw [e1] at hx'
          cases hx'
        | some e =>
          obtain ⟨hm, hk⟩ := findDe_ok e1
          have q := List.all_eq_true.mp k1 e hm
          rw [hk] at q
          obtain ⟨fd, F⟩ := c.def_ (List.mem_map_of_mem hm)
          have kp := F.kp
          rw [hk] at kp
          exact ⟨He.fAd K (x, none), glo q, kp, fact _ e e1⟩
      cls := fun x hx => (nomatch hx)
      meth := fun x m hx => (nomatch hx)
      fld := fun x f hx => (nomatch hx)
      con := fun x u hx => by
        have q := List.all_eq_true.mp k2 (x, u) (look_mem hx)
        cases u with
        | int i =>
          obtain ⟨t, e⟩ := He.int_ok X G q
          exact ⟨.int i, _, e, ⟨t, rfl⟩, fun _ _ => .int i⟩
        | str z =>
          obtain ⟨t, e⟩ := He.str_ok X G q
          exact ⟨.str z, _, e, ⟨t, rfl⟩, fun _ _ => .str z⟩
        | _ => cases q
      glo := fun x hx => ⟨_, glo (List.all_eq_true.mp k4 x (hasS_mem hx))⟩
      free := fun x hx => He.free_ok X G (List.all_eq_true.mp k3 x (hasS_mem hx))
      exc := fun x hx => by
        obtain ⟨q1, q2⟩ := He.ba (List.all_eq_true.mp k5 x (hasS_mem hx))
        obtain ⟨z1, z2, z3, z4⟩ := He.exc_ok q2
        exact ⟨_, glo q1, z1, z2, z3, z4⟩
      sub := fun x y b hx => by
        have hx' : (look x L.sub).bind (look y) = some b := hx
        cases e1 : look x L.sub with
        | none =>
          rw [e1] at hx'
          cases hx'
        | some l =>
          rw [e1] at hx'
          obtain ⟨q1, q2⟩ := He.ba (List.all_eq_true.mp k6 (x, l) (look_mem e1))
          obtain ⟨q3, q4⟩ := He.ba (List.all_eq_true.mp q2 (y, b) (look_mem hx'))
          exact ⟨_, _, glo q1, glo q3, He.exm_ok q4⟩
      isa := fun x u b hx => by
        cases e1 : look x L.isa with
        | none =>
          have hx' : isaOf L.isa x u = some b := hx
          unfold isaOf at hx'
          rw [e1] at hx'
          cases u <;> cases hx'
        | some p =>
          obtain ⟨q1, q2⟩ := He.ba (List.all_eq_true.mp k7 (x, p) (look_mem e1))
          obtain ⟨q3, q4⟩ := He.ba q2
          obtain ⟨q5, q6⟩ := He.ba q4
          cases u with
          | glo y =>
            have hx' : ((look x L.isa).bind fun p => look y p.1) = some b := hx
            rw [e1] at hx'
            obtain ⟨z1, z2⟩ := He.ba (List.all_eq_true.mp q5 (y, b) (look_mem hx'))
            exact ⟨_, _, glo q1, excB_ok q3, glo z1, of_decide_eq_true z2⟩
          | ty n =>
            have hx' : ((look x L.isa).bind fun p => lookN n p.2) = some b := hx
            rw [e1] at hx'
            exact ⟨_, _, glo q1, excB_ok q3, rfl, of_decide_eq_true (List.all_eq_true.mp q6 (n, b) (lookN_mem hx'))⟩
          | _ => cases hx }
end
end Mi
/-! Mi, part V: a law's end. -/
namespace Mi
open PySem PySem.Spec PyProof.Rows L2
set_option linter.unusedVariables false
theorem walk_ofU {l : PySem.W.OpenLaw} {n k : Nat} {q : Program} {loose : List Str} {XP : (Str → Option Value) → Heap → Prop} {YP : World → Heap → Prop} {d : DefRec} {CX : World → CXT} {x : Str}
    (hn : l.most = some n) (hn2 : n ≤ sizeLine) (hdf : d.params.defaults = []) (hr : Room k callerA)
    (F : ∀ (w : World) (mg : Str → Option Value) (fa : Addr) (h : Heap), YP w h → h.Ns mainGlobals mg → mg d.name = some (.ref fa) →
      ∃ (K : PySem.W.Frag) (fd : FuncData) (sp : Sp), K.In h ∧ (∀ (s : Shared) (u : Value), BindsTo s fd ⟨[u], []⟩ [(x, u)]) ∧
        (∀ (H : Hp) (a : Addr) (ns : List Int), ns.length ≤ n → Only H → SqL K H a (ns.map V.int) → sp [.ref a] H (fun v _ => v = .bl true) fun _ _ _ => False) ∧
        ∀ base : Heap, K.In base → base.Ns mainGlobals mg → FnOk l.prog w K mg base (CX w) k fa fd [x] sp)
    (hCX : ∀ (w : World) (H : Hp) (s : Shared) (e : Value) (s' : Shared), CX w [] H s (fun _ _ _ => False) e s' → False) :
    PySem.W.WalkO q loose XP YP l.row.toRowW d [] (fun f vs => PySem.call f vs) := by
  refine Att.attach_call hn hdf fun w s₀ s₁ mg mb fa o pm cd doc a vs ns G Y ho hd hcd hmg hobj hints hlen hg => ?_
  obtain ⟨K, fd, sp, KX, hb, hsp, hF⟩ := F w mg fa _ Y G.T.g hmg
  exact law_call KX G.T.g G.T.b G.T.builtins G.T.nolimit hg hobj hints (Nat.le_trans hlen hn2) hr hF hb (fun H hO hS => hsp H a ns hlen hO hS) fun H e s' => hCX w H s₁ e s'
/-- a law by its interpreter's run -/
theorem law_walk {l : PySem.W.OpenLaw} {q : Program} {loose : List Str} {XP : (Str → Option Value) → Heap → Prop} {d : DefRec} {x : Str} (L : LD) (n : Nat) (e : De)
    (hn : l.most = some 63) (hdf : d.params.defaults = []) (hr : Room (2 * n) callerA) (hE : ∀ e ∈ L.es, e.Ok) (he : findDe ("law", none) L.es = some e) (hx : e.ps = [x]) (hd : e.d.dfl = []) (hnm : d.name = "law")
    (spec : ∀ ns : List Int, ns.length ≤ 63 → ∃ m, callN L.sta n ("law", none) [.cl (ns.map U.int)] [] = .ok (.bl true) m) :
    PySem.W.WalkO q loose XP (hookU 4 L.chk (L.es.map (·.d))).says l.row.toRowW d [] (fun f vs => PySem.call f vs) := by
  refine walk_ofU (n := 63) (k := 2 * n) (x := x) (CX := fun w => L2.CX l.prog w) hn (by decide) hdf hr (fun w mg fa h Y G hmg => ?_) (fun w H s e s' ⟨_, _, _, _, _, _, _, _, _, _, _, _, z⟩ => z)
  obtain ⟨K, KX, c⟩ := Y
  have so := sta_ok KX G c hE
  obtain ⟨f, h1, _, e', fd, h3, F, Sc, hB⟩ := so.def_ "law" (by
    show (findDe ("law", none) L.es).isSome = true
    rw [he]
    rfl)
  have ee : e' = e := Option.some.inj ((show findDe ("law", none) L.es = some e' from h3).symm.trans he)
  subst ee
  rw [hnm] at hmg
  have ef : f = fa := Value.ref.inj (Option.some.inj (h1.symm.trans hmg))
  subst ef
  have hm := (findDe_ok he).1
  have hb := (hE _ hm).2 hd
  have ev : e'.d.dvs K = [] := by
    unfold He.DefD.dvs
    rw [hd]
    rfl
  have F' := F
  rw [ev] at F'
  have bA := F'.bindsA (ps := e'.ps) hb
  refine ⟨K, fd, spU ⟨K, mg⟩ 1 (callN L.sta n ("law", none)), KX, fun s u => ?_, fun H a ns hl hO hS => ?_, fun base KB GB => ?_⟩
  · have := bA s [u] (by rw [hx]; rfl)
    rw [hx] at this
    exact this
  · obtain ⟨m, hsp⟩ := spec ns hl
    refine ⟨⟨[], []⟩, [], [.cl (ns.map U.int)], ⟨rfl, List.nodup_nil, fun i o h => (nomatch h), fun b hb => (nomatch hb)⟩, .cons (.cl ?_ (RUs.ints ns)) .nil, rfl, ?_⟩
    · rcases hS with hS | hS
      · exact .inl ⟨List.not_mem_nil, List.not_mem_nil, hS⟩
      · exact .inr hS
    · rw [hsp]
      intro r' H' v ex C rv
      cases rv
      rfl
  · have t := fn_call0 (P := l.prog) (w := w) (base := base) h3 F' Sc (n := n) fun j _ => tab_ok so j
    rw [hx] at t
    exact t
end Mi
/-! Mi, part W: plain reasoning on runs: what a run ends well with. -/
namespace Mi
open PySem PySem.Spec PyProof.Rows L2
set_option linter.unusedVariables false
def okP {α : Type} (o : Option (α × MH)) (Q : α → MH → Prop) : Prop := match o with
  | some p => Q p.1 p.2
  | none => False
def okO {α : Type} (o : Out α) (Q : α → MH → Prop) : Prop := match o with
  | .ok a m => Q a m
  | _ => False
def okS (o : SO) (N : Env1 → MH → Prop) (R : U → MH → Prop) : Prop := match o with
  | .nx t m => N t m
  | .rt u m => R u m
  | _ => False
section
variable {α β : Type} {Q : U → MH → Prop} {N : Env1 → MH → Prop} {R : U → MH → Prop} {t : Env1} {m : MH}
@[simp] theorem okP_some {P : α → MH → Prop} (a : α) (m : MH) : okP (some (a, m)) P ↔ P a m := Iff.rfl
@[simp] theorem okP_none {P : α → MH → Prop} : okP (none : Option (α × MH)) P ↔ False := Iff.rfl
@[simp] theorem okO_ok {P : α → MH → Prop} (a : α) (m : MH) : okO (.ok a m) P ↔ P a m := Iff.rfl
@[simp] theorem okO_bad {P : α → MH → Prop} : okO (.bad : Out α) P ↔ False := Iff.rfl
@[simp] theorem okO_err {P : α → MH → Prop} (x : Ex) (m : MH) : okO (.err x m : Out α) P ↔ False := Iff.rfl
theorem okP_mono {o : Option (α × MH)} {P P' : α → MH → Prop} (h : okP o P) (k : ∀ a m, P a m → P' a m) : okP o P' := by
  cases o with
  | none => exact h
  | some p => exact k _ _ h
theorem okO_mono {o : Out α} {P P' : α → MH → Prop} (h : okO o P) (k : ∀ a m, P a m → P' a m) : okO o P' := by
  cases o with
  | ok a m => exact k _ _ h
  | _ => exact h
theorem okS_mono {o : SO} {N' : Env1 → MH → Prop} {R' : U → MH → Prop} (h : okS o N R) (k1 : ∀ t m, N t m → N' t m) (k2 : ∀ u m, R u m → R' u m) : okS o N' R' := by
  cases o with
  | nx t m => exact k1 _ _ h
  | rt u m => exact k2 _ _ h
  | _ => exact h
theorem okO_bind {o : Out α} {f : α → MH → Out β} {P : β → MH → Prop} : okO (o.bind f) P ↔ okO o fun a m => okO (f a m) P := by
  cases o <;> exact Iff.rfl
theorem okO_ofO {o : Option (α × MH)} {P : α → MH → Prop} : okO (ofO o) P ↔ okP o P := by
  cases o with
  | none => exact Iff.rfl
  | some p => exact Iff.rfl
@[simp] theorem ok_cK (u : U) : okO (cK u t m) Q ↔ Q u m := Iff.rfl
theorem ok_cVar {i : Nat} {u : U} (h : t[i]? = some (some u)) : okO (cVar i t m) Q ↔ Q u m := by
  unfold cVar
  rw [h]
  exact Iff.rfl
@[simp] theorem ok_cVar0 {u : U} {r : Env1} : okO (cVar 0 (some u :: r) m) Q ↔ Q u m := ok_cVar rfl
@[simp] theorem ok_cVarS {i : Nat} {a : Option U} {r : Env1} : okO (cVar (i + 1) (a :: r) m) Q ↔ okO (cVar i r m) Q := by
  unfold cVar
  rw [List.getElem?_cons_succ]
@[simp] theorem ok_cBin {g : B2} {a b : E1} : okO (cBin g a b t m) Q ↔ okO (a t m) fun u m1 => okO (b t m1) fun w m2 => okP (g u w m2) Q := by
  unfold cBin
  simp only [okO_bind, okO_ofO]
@[simp] theorem ok_cUn {g : B1} {a : E1} : okO (cUn g a t m) Q ↔ okO (a t m) fun u m1 => okP (g u m1) Q := by
  unfold cUn
  simp only [okO_bind, okO_ofO]
@[simp] theorem ok_cIsBl {a : E1} {P : Bool → MH → Prop} : okO (cIsBl a t m) P ↔ okO (a t m) fun u m1 => okP (blOf u m1) P := by
  unfold cIsBl
  simp only [okO_bind, okO_ofO]
@[simp] theorem ok_blOf (b : Bool) {P : Bool → MH → Prop} : okP (blOf (.bl b) m) P ↔ P b m := Iff.rfl
@[simp] theorem ok_cNot {a : Fn1 Bool} {P : Bool → MH → Prop} : okO (cNot a t m) P ↔ okO (a t m) fun b m1 => P (!b) m1 := by
  unfold cNot
  simp only [okO_bind, okO_ok]
@[simp] theorem ok_cAnd {a b : Fn1 Bool} {P : Bool → MH → Prop} : okO (cAnd a b t m) P ↔ okO (a t m) fun x m1 => (x = true → okO (b t m1) P) ∧ (x = false → P false m1) := by
  unfold cAnd
  rw [okO_bind]
  cases a t m with
  | ok x m1 => cases x <;> simp
  | _ => exact Iff.rfl
@[simp] theorem ok_cOr {a b : Fn1 Bool} {P : Bool → MH → Prop} : okO (cOr a b t m) P ↔ okO (a t m) fun x m1 => (x = true → P true m1) ∧ (x = false → okO (b t m1) P) := by
  unfold cOr
  rw [okO_bind]
  cases a t m with
  | ok x m1 => cases x <;> simp
  | _ => exact Iff.rfl
@[simp] theorem ok_cIf {a b : Fn1 α} {q : Fn1 Bool} {P : α → MH → Prop} : okO (cIf q a b t m) P ↔ okO (q t m) fun x m1 => (x = true → okO (a t m1) P) ∧ (x = false → okO (b t m1) P) := by
  unfold cIf
  rw [okO_bind]
  cases q t m with
  | ok x m1 => cases x <;> simp
  | _ => exact Iff.rfl
def okT (u : U) (m : MH) (P : Bool → Prop) : Prop := match truU u m with
  | some b => P b
  | none => False
@[simp] theorem okT_bl (b : Bool) {P : Bool → Prop} : okT (.bl b) m P ↔ P b := Iff.rfl
@[simp] theorem ok_cAndV {a b : E1} : okO (cAndV a b t m) Q ↔ okO (a t m) fun u m1 => okT u m1 fun x => (x = true → okO (b t m1) Q) ∧ (x = false → Q u m1) := by
  unfold cAndV
  rw [okO_bind]
  cases a t m with
  | ok u m1 =>
    simp only [okO_ok]
    unfold okT
    cases truU u m1 with
    | none => exact Iff.rfl
    | some x => cases x <;> simp
  | _ => exact Iff.rfl
@[simp] theorem ok_cOrV {a b : E1} : okO (cOrV a b t m) Q ↔ okO (a t m) fun u m1 => okT u m1 fun x => (x = true → Q u m1) ∧ (x = false → okO (b t m1) Q) := by
  unfold cOrV
  rw [okO_bind]
  cases a t m with
  | ok u m1 =>
    simp only [okO_ok]
    unfold okT
    cases truU u m1 with
    | none => exact Iff.rfl
    | some x => cases x <;> simp
  | _ => exact Iff.rfl
@[simp] theorem ok_cNotV {a : E1} : okO (cNotV a t m) Q ↔ okO (a t m) fun u m1 => okT u m1 fun x => Q (.bl (!x)) m1 := by
  unfold cNotV
  rw [okO_bind]
  cases a t m with
  | ok u m1 =>
    simp only [okO_ok]
    unfold okT
    cases truU u m1 <;> exact Iff.rfl
  | _ => exact Iff.rfl
@[simp] theorem ok_cTruth {a : E1} {P : Bool → MH → Prop} : okO (cTruth a t m) P ↔ okO (a t m) fun u m1 => okT u m1 fun x => P x m1 := by
  unfold cTruth
  rw [okO_bind]
  cases a t m with
  | ok u m1 =>
    simp only [okO_ok]
    unfold okT
    cases truU u m1 <;> exact Iff.rfl
  | _ => exact Iff.rfl
@[simp] theorem ok_cNil {P : List U → MH → Prop} : okO (cNil t m) P ↔ P [] m := Iff.rfl
@[simp] theorem ok_cCons {a : E1} {b : Fn1 (List U)} {P : List U → MH → Prop} : okO (cCons a b t m) P ↔ okO (a t m) fun u m1 => okO (b t m1) fun us m2 => P (u :: us) m2 := by
  unfold cCons
  simp only [okO_bind, okO_ok]
@[simp] theorem ok_cFn {g : List U → MH → Option (U × MH)} {a : Fn1 (List U)} : okO (cFn g a t m) Q ↔ okO (a t m) fun us m1 => okP (g us m1) Q := by
  unfold cFn
  simp only [okO_bind, okO_ofO]
@[simp] theorem ok_cChain {g g' : B2} {a b d : E1} : okO (cChain g g' a b d t m) Q ↔ okO (a t m) fun u m1 => okO (b t m1) fun w m2 => okP (g u w m2) fun z m3 => okP (blOf z m3) fun k m4 => (k = true → okO (d t m4) fun y m5 => okP (g' w y m5) Q) ∧ (k = false → Q (.bl false) m4) := by
  unfold cChain
  simp only [okO_bind, okO_ofO]
  refine iff_of_eq (congrArg _ (funext fun u => funext fun m1 => congrArg _ (funext fun w => funext fun m2 => congrArg _ (funext fun z => funext fun m3 => congrArg _ (funext fun k => funext fun m4 => ?_)))))
  cases k with
  | true => simp only [okO_bind, okO_ofO, true_implies, reduceCtorEq, false_implies, and_true]
  | false => simp only [okO_ok, reduceCtorEq, false_implies, true_implies, true_and]
@[simp] theorem ok_cPart_none {P : Option Int → MH → Prop} : okO (cPart none t m) P ↔ P none m := Iff.rfl
def okI (u : U) (P : Int → Prop) : Prop := match u with
  | .int i => P i
  | _ => False
@[simp] theorem okI_int (i : Int) {P : Int → Prop} : okI (.int i) P ↔ P i := Iff.rfl
@[simp] theorem ok_cPart_some {f : E1} {P : Option Int → MH → Prop} : okO (cPart (some f) t m) P ↔ okO (f t m) fun u m1 => okI u fun i => P (some i) m1 := by
  show okO ((f t m).bind _) P ↔ _
  rw [okO_bind]
  cases f t m with
  | ok u m1 => cases u <;> exact Iff.rfl
  | _ => exact Iff.rfl
@[simp] theorem ok_cSlice {a : E1} {lo hi : Option E1} : okO (cSlice a lo hi t m) Q ↔ okO (a t m) fun u m1 => okO (cPart lo t m1) fun l m2 => okO (cPart hi t m2) fun h m3 => okP (slcU u l h m3) Q := by
  unfold cSlice
  simp only [okO_bind, okO_ofO]
@[simp] theorem ok_cCallK {n k : Nat} {f : List U → List U → MH → Out U} {a b : Fn1 (List U)} : okO (cCallK n k f a b t m) Q ↔ okO (a t m) fun us m1 => okO (b t m1) fun zs m2 => us.length = n ∧ zs.length = k ∧ okO (f us zs m2) Q := by
  unfold cCallK
  simp only [okO_bind]
  refine iff_of_eq (congrArg _ (funext fun u => funext fun m1 => congrArg _ (funext fun w => funext fun m2 => propext ?_)))
  by_cases h : u.length = n ∧ w.length = k
  · rw [if_pos h]
    exact ⟨fun x => ⟨h.1, h.2, x⟩, fun x => x.2.2⟩
  · rw [if_neg h]
    exact ⟨fun x => x.elim, fun x => h ⟨x.1, x.2.1⟩⟩
@[simp] theorem ok_cDic : okO (cDic t m) Q ↔ Q (.ref m.length) (m ++ [.dic false []]) := Iff.rfl
@[simp] theorem ok_cYes {P : Bool → MH → Prop} : okO (cYes t m) P ↔ P true m := Iff.rfl
/-! ### statements -/
@[simp] theorem ok_sNx : okS (sNx t m) N R ↔ N t m := Iff.rfl
@[simp] theorem ok_sSeq {a b : S1} : okS (sSeq a b t m) N R ↔ okS (a t m) (fun t' m' => okS (b t' m') N R) R := by
  unfold sSeq
  cases a t m <;> exact Iff.rfl
theorem ok_sE {f : Fn1 α} {k : α → S1} : okS (sE f k t m) N R ↔ okO (f t m) fun u m1 => okS (k u t m1) N R := by
  unfold sE
  cases f t m <;> exact Iff.rfl
@[simp] theorem ok_sRet {a : E1} : okS (sRet a t m) N R ↔ okO (a t m) R := by
  unfold sRet
  rw [ok_sE]
  exact Iff.rfl
@[simp] theorem ok_sDrop {a : E1} : okS (sDrop a t m) N R ↔ okO (a t m) fun _ m1 => N t m1 := by
  unfold sDrop
  rw [ok_sE]
  exact Iff.rfl
@[simp] theorem ok_sIf {q : Fn1 Bool} {a b : S1} : okS (sIf q a b t m) N R ↔ okO (q t m) fun x m1 => (x = true → okS (a t m1) N R) ∧ (x = false → okS (b t m1) N R) := by
  unfold sIf
  rw [ok_sE]
  refine iff_of_eq (congrArg _ (funext fun x => funext fun m1 => propext ?_))
  cases x <;> simp
@[simp] theorem ok_sAsg {a : E1} {g : G1} : okS (sAsg a g t m) N R ↔ okO (a t m) fun u m1 => okP (g u t m1) N := by
  unfold sAsg
  rw [ok_sE]
  refine iff_of_eq (congrArg _ (funext fun u => funext fun m1 => propext ?_))
  cases g u t m1 <;> exact Iff.rfl
@[simp] theorem ok_gName {i : Nat} {u : U} {P : Env1 → MH → Prop} : okP (gName i u t m) P ↔ P (t.set i (some u)) m := Iff.rfl
@[simp] theorem ok_gSubU {fo fi : E1} {u : U} {P : Env1 → MH → Prop} : okP (gSubU fo fi u t m) P ↔ okO (fo t m) fun o m1 => okO (fi t m1) fun i m2 => ∃ m3, setU o i u m2 = some m3 ∧ P t m3 := by
  unfold gSubU
  cases fo t m with
  | ok o m1 =>
    simp only [okO_ok]
    cases fi t m1 with
    | ok i m2 =>
      simp only [okO_ok]
      cases setU o i u m2 with
      | none => simp
      | some m3 => simp
    | _ => exact Iff.rfl
  | _ => exact Iff.rfl
/-! ### loops -/
theorem loopL_inv {g : G1} {b : S1} (Inv : Nat → Env1 → MH → Prop) {us : List U} (step : ∀ i u t m, us[i]? = some u → Inv i t m → okP (g u t m) fun t' m' => okS (b t' m') (Inv (i + 1)) R) (fin : ∀ t m, Inv us.length t m → N t m) :
    ∀ (ws : List U) (i : Nat), us.drop i = ws → i ≤ us.length → ∀ t m, Inv i t m → okS (loopL g b ws t m) N R
  | [], i, e, hi, t, m, h => by
    have : i = us.length := by
      have := congrArg List.length e
      rw [List.length_drop] at this
      simp at this
      omega
    subst this
    exact fin t m h
  | u :: ws, i, e, hi, t, m, h => by
    have hlt : i < us.length := by
      have := congrArg List.length e
      rw [List.length_drop] at this
      simp at this
      omega
    have eu : us[i]? = some u := by
      have : (us.drop i)[0]? = some u := by rw [e]; rfl
      rw [List.getElem?_drop] at this
      simpa using this
    have ew : us.drop (i + 1) = ws := by
      have : (us.drop i).drop 1 = ws := by rw [e]; rfl
      rw [List.drop_drop] at this
      exact this
    have s := step i u t m eu h
    unfold loopL
    cases e1 : g u t m with
    | none =>
      rw [e1] at s
      exact s.elim
    | some p =>
      obtain ⟨t', m'⟩ := p
      rw [e1] at s
      dsimp only
      have s' : okS (b t' m') (Inv (i + 1)) R := s
      cases e2 : b t' m' with
      | nx t2 m2 =>
        rw [e2] at s'
        exact loopL_inv Inv step fin ws (i + 1) ew hlt t2 m2 s'
      | rt u2 m2 =>
        rw [e2] at s'
        exact s'
      | _ =>
        rw [e2] at s'
        exact s'.elim
theorem ok_loop {g : G1} {b : S1} {us : List U} (Inv : Nat → Env1 → MH → Prop) (h0 : Inv 0 t m) (step : ∀ i u t m, us[i]? = some u → Inv i t m → okP (g u t m) fun t' m' => okS (b t' m') (Inv (i + 1)) R) (fin : ∀ t m, Inv us.length t m → N t m) :
    okS (loopI (constIt us) g b us.length 0 t m) N R := by
  have e := loopL_all g b us t m
  have el : (constIt us).len = us.length := rfl
  rw [el] at e
  rw [e]
  exact loopL_inv Inv step fin us 0 rfl (Nat.zero_le _) t m h0
@[simp] theorem ok_sFor {f : I1} {g : G1} {b : S1} : okS (sFor f g b t m) N R ↔ okO (f t m) fun it m1 => okS (loopI it g b it.len 0 t m1) N R := by
  unfold sFor
  rw [ok_sE]
@[simp] theorem ok_cIt {f : E1} {P : ItU → MH → Prop} : okO (cIt f t m) P ↔ okO (f t m) fun u m1 => okP (itOf u m1) P := by
  unfold cIt
  simp only [okO_bind, okO_ofO]
@[simp] theorem ok_cRng1 {f : Fn1 (List U)} {P : ItU → MH → Prop} : okO (cRng1 f t m) P ↔ okO (f t m) fun us m1 => okP (rngOf1 us m1) P := by
  unfold cRng1
  simp only [okO_bind, okO_ofO]
@[simp] theorem ok_cRng2 {f : Fn1 (List U)} {P : ItU → MH → Prop} : okO (cRng2 f t m) P ↔ okO (f t m) fun us m1 => okP (rngOf2 us m1) P := by
  unfold cRng2
  simp only [okO_bind, okO_ofO]
@[simp] theorem ok_rng1 {j : Int} {P : ItU → MH → Prop} : okP (rngOf1 [.int j] m) P ↔ rngBd j = true ∧ P (constIt (rangeU 0 j.toNat)) m := by
  show okP (if rngBd j = true then some (constIt (rangeU 0 j.toNat), m) else none) P ↔ _
  by_cases h : rngBd j = true
  · rw [if_pos h]
    exact ⟨fun x => ⟨h, x⟩, fun x => x.2⟩
  · rw [if_neg h]
    exact ⟨fun x => x.elim, fun x => h x.1⟩
@[simp] theorem ok_itOf_tup {us : List U} {P : ItU → MH → Prop} : okP (itOf (.tup us) m) P ↔ P (constIt us) m := Iff.rfl
@[simp] theorem ok_itOf_fl {us : List U} {P : ItU → MH → Prop} : okP (itOf (.fl us) m) P ↔ P (constIt us) m := Iff.rfl
@[simp] theorem ok_itOf_cl {us : List U} {P : ItU → MH → Prop} : okP (itOf (.cl us) m) P ↔ P (constIt us) m := Iff.rfl
@[simp] theorem ok_itOf_str {x : Str} {P : ItU → MH → Prop} : okP (itOf (.str x) m) P ↔ P (constIt (signsU x)) m := Iff.rfl
@[simp] theorem ok_cLc {hp : Bool} {f : I1} {g : G1} {q : Fn1 Bool} {e : E1} {own : List Nat} : okO (cLc hp f g q e own t m) Q ↔ okO (f t m) fun it m1 => lineOk it.len = true ∧ okP (lcI it g q e (wipeU t own) it.len 0 [] m1) fun us m2 => Q (flP hp (us, m2)).1 (flP hp (us, m2)).2 := by
  unfold cLc
  rw [okO_bind]
  refine iff_of_eq (congrArg _ (funext fun it => funext fun m1 => propext ?_))
  rw [okO_ofO]
  by_cases h : lineOk it.len = true
  · rw [if_pos h]
    cases lcI it g q e (wipeU t own) it.len 0 [] m1 with
    | none => exact ⟨fun x => x.elim, fun x => x.2.elim⟩
    | some p => exact ⟨fun x => ⟨h, x⟩, fun x => x.2⟩
  · rw [if_neg h]
    exact ⟨fun x => x.elim, fun x => h x.1⟩
theorem lc_inv {g : G1} {q : Fn1 Bool} {e : E1} {t0 : Env1} (Inv : Nat → List U → MH → Prop) {us : List U}
    (step : ∀ i u acc m, us[i]? = some u → Inv i acc m → okP (g u t0 m) fun t1 m1 => okO (q t1 m1) fun b m2 => (b = true → okO (e t1 m2) fun w m3 => Inv (i + 1) (acc ++ [w]) m3) ∧ (b = false → Inv (i + 1) acc m2)) :
    ∀ (k i : Nat) (acc : List U) (m : MH), i + k = us.length → Inv i acc m → okP (lcI (constIt us) g q e t0 k i acc m) (Inv us.length)
  | 0, i, acc, m, hk, h => by
    have : i = us.length := by omega
    subst this
    exact h
  | k + 1, i, acc, m, hk, h => by
    have hlt : i < us.length := by omega
    have eu : (constIt us).get m i = some us[i] := by
      show us[i]? = _
      exact List.getElem?_eq_getElem hlt
    have s := step i us[i] acc m (List.getElem?_eq_getElem hlt) h
    unfold lcI
    rw [eu, Option.bind_some]
    cases e1 : g us[i] t0 m with
    | none =>
      rw [e1] at s
      exact s.elim
    | some p =>
      obtain ⟨t1, m1⟩ := p
      rw [e1] at s
      rw [Option.bind_some]
      dsimp only
      have s' : okO (q t1 m1) fun b m2 => (b = true → okO (e t1 m2) fun w m3 => Inv (i + 1) (acc ++ [w]) m3) ∧ (b = false → Inv (i + 1) acc m2) := s
      cases e2 : q t1 m1 with
      | ok b m2 =>
        rw [e2] at s'
        cases b with
        | true =>
          have s2 := s'.1 rfl
          cases e3 : e t1 m2 with
          | ok w m3 =>
            rw [e3] at s2
            have s3 := lc_inv Inv step k (i + 1) (acc ++ [w]) m3 (by omega) s2
            simp only [e3]
            exact s3
          | _ =>
            rw [e3] at s2
            exact s2.elim
        | false => exact lc_inv Inv step k (i + 1) acc m2 (by omega) (s'.2 rfl)
      | _ =>
        rw [e2] at s'
        exact s'.elim
theorem ok_lc {g : G1} {q : Fn1 Bool} {e : E1} {t0 : Env1} {us : List U} {P : List U → MH → Prop} (Inv : Nat → List U → MH → Prop) (h0 : Inv 0 [] m)
    (step : ∀ i u acc m, us[i]? = some u → Inv i acc m → okP (g u t0 m) fun t1 m1 => okO (q t1 m1) fun b m2 => (b = true → okO (e t1 m2) fun w m3 => Inv (i + 1) (acc ++ [w]) m3) ∧ (b = false → Inv (i + 1) acc m2))
    (fin : ∀ acc m, Inv us.length acc m → P acc m) : okP (lcI (constIt us) g q e t0 us.length 0 [] m) P :=
  okP_mono (lc_inv Inv step us.length 0 [] m (Nat.zero_add _) h0) fin
/-- while: a measure -/
theorem ok_while {q : Fn1 Bool} {b : S1} (Inv : Nat → Env1 → MH → Prop) (step : ∀ n t m, Inv n t m → okO (q t m) fun x m1 => (x = true → okS (b t m1) (fun t' m' => ∃ n', n' < n ∧ Inv n' t' m') R) ∧ (x = false → N t m1)) :
    ∀ (k n : Nat) (t : Env1) (m : MH), n < k → Inv n t m → okS (sWhile q b k t m) N R
  | 0, n, t, m, hk, h => absurd hk (Nat.not_lt_zero _)
  | k + 1, n, t, m, hk, h => by
    have s := step n t m h
    unfold sWhile
    rw [ok_sE]
    refine okO_mono s fun x m1 hx => ?_
    cases x with
    | false => exact hx.2 rfl
    | true =>
      have s1 := hx.1 rfl
      dsimp only
      cases e : b t m1 with
      | nx t2 m2 =>
        rw [e] at s1
        obtain ⟨n', hn, h'⟩ := s1
        exact ok_while Inv step k n' t2 m2 (by omega) h'
      | rt u m2 =>
        rw [e] at s1
        exact s1
      | _ =>
        rw [e] at s1
        exact s1.elim
end
/-- a def's run -/
theorem ok_run {T : Tab} {f : De} {c : S1} (e : bodyU T f = c) {us : List U} {m : MH} {Q : U → MH → Prop} (hl : us.length = f.ps.length) (h : okS (c (startU f.N us) m) (fun _ m' => Q .non m') Q) : okO (runDf T f us m) Q := by
  unfold runDf
  rw [if_pos hl, e]
  cases e1 : c (startU f.N us) m with
  | nx t m' =>
    rw [e1] at h
    exact h
  | rt u m' =>
    rw [e1] at h
    exact h
  | _ =>
    rw [e1] at h
    exact h.elim
theorem callN_some {S : Sta} {n : Nat} {key : FKey} {f : De} (h : S.df key = some f) : callN S (n + 1) key = runDf (S.tab (callN S n)) f := by
  funext us m
  show (match S.df key with
    | none => Out.bad
    | some f => runDf (S.tab (callN S n)) f us m) = _
  rw [h]
end Mi
/-! Mi, part X: operations on known values; the drawing of numbers that many laws share. -/
namespace Mi
open PySem PySem.Spec PyProof.Rows L2
set_option linter.unusedVariables false
set_option maxRecDepth 10000
set_option exponentiation.threshold 2000
section
variable {Q : U → MH → Prop} {m : MH}
theorem okP_ite {α : Type} {b : Bool} {p : α × MH} {P : α → MH → Prop} : okP (if b = true then some p else none) P ↔ b = true ∧ P p.1 p.2 := by
  by_cases h : b = true
  · rw [if_pos h]
    exact ⟨fun x => ⟨h, x⟩, fun x => x.2⟩
  · rw [if_neg h]
    exact ⟨fun x => x.elim, fun x => h x.1⟩
@[simp] theorem ok_add (i j : Int) : okP (addU (.int i) (.int j) m) Q ↔ Q (.int (i + j)) m := Iff.rfl
@[simp] theorem ok_sub (i j : Int) : okP (subU (.int i) (.int j) m) Q ↔ Q (.int (i - j)) m := Iff.rfl
@[simp] theorem ok_neg (i : Int) : okP (negU (.int i) m) Q ↔ Q (.int (-i)) m := Iff.rfl
theorem ok_mul {i j : Int} (h : mulOk i j = true) : okP (mulU (.int i) (.int j) m) Q ↔ Q (.int (i * j)) m := by
  show okP (if mulOk i j = true then some (.int (i * j), m) else none) Q ↔ _
  rw [if_pos h]
  exact Iff.rfl
theorem ok_mod {i j : Int} (h : 0 < j) : okP (modU (.int i) (.int j) m) Q ↔ Q (.int (i % j)) m := by
  show okP (if decide (0 < j) = true then some (.int (i % j), m) else none) Q ↔ _
  rw [if_pos (decide_eq_true h)]
  exact Iff.rfl
theorem ok_div {i j : Int} (h : divOk j = true) : okP (fdivU (.int i) (.int j) m) Q ↔ Q (.int (i / j)) m := by
  show okP (if divOk j = true then some (.int (i / j), m) else none) Q ↔ _
  rw [if_pos h]
  exact Iff.rfl
theorem ok_pow {i j : Int} (h : powOk i j = true) : okP (powU (.int i) (.int j) m) Q ↔ Q (.int (i ^ j.toNat)) m := by
  show okP (if powOk i j = true then some (.int (i ^ j.toNat), m) else none) Q ↔ _
  rw [if_pos h]
  exact Iff.rfl
@[simp] theorem ok_cmpI (p : Int → Int → Bool) (i j : Int) : okP (cmpI p (.int i) (.int j) m) Q ↔ Q (.bl (p i j)) m := Iff.rfl
@[simp] theorem ok_eqI (i j : Int) : okP (eqU (.int i) (.int j) m) Q ↔ Q (.bl (decide (i = j))) m := Iff.rfl
@[simp] theorem ok_neI (i j : Int) : okP (neU (.int i) (.int j) m) Q ↔ Q (.bl (!decide (i = j))) m := Iff.rfl
@[simp] theorem ok_eqS (i j : Str) : okP (eqU (.str i) (.str j) m) Q ↔ Q (.bl (decide (i = j))) m := Iff.rfl
@[simp] theorem ok_neS (i j : Str) : okP (neU (.str i) (.str j) m) Q ↔ Q (.bl (!decide (i = j))) m := Iff.rfl
@[simp] theorem ok_eqB (i j : Bool) : okP (eqU (.bl i) (.bl j) m) Q ↔ Q (.bl (decide (i = j))) m := Iff.rfl
@[simp] theorem ok_neB (i j : Bool) : okP (neU (.bl i) (.bl j) m) Q ↔ Q (.bl (!decide (i = j))) m := Iff.rfl
theorem ok_eqOf {u w : U} {b : Bool} (h : eqB u w m = some b) : okP (eqU u w m) Q ↔ Q (.bl b) m := by
  unfold eqU
  rw [h]
  exact Iff.rfl
theorem ok_neOf {u w : U} {b : Bool} (h : eqB u w m = some b) : okP (neU u w m) Q ↔ Q (.bl (!b)) m := by
  unfold neU
  rw [h]
  exact Iff.rfl
theorem ok_idxL {n : Nat} {us : List U} {i : Int} {u : U} (h : m[n]? = some (.lst us)) (e : atI us i = some u) : okP (idxU (.ref n) (.int i) m) Q ↔ Q u m := by
  have e0 : seqL (.ref n) m = some us := by
    unfold seqL
    simp only [h]
  have e1 : idxU (.ref n) (.int i) m = (atI us i).map fun u => (u, m) := by
    unfold idxU
    simp only [e0]
  rw [e1, e]
  exact Iff.rfl
theorem ok_idxF {us : List U} {i : Int} {u : U} (e : atI us i = some u) : okP (idxU (.fl us) (.int i) m) Q ↔ Q u m := by
  have e1 : idxU (.fl us) (.int i) m = (atI us i).map fun u => (u, m) := rfl
  rw [e1, e]
  exact Iff.rfl
theorem ok_idxT {us : List U} {i : Int} {u : U} (e : atI us i = some u) : okP (idxU (.tup us) (.int i) m) Q ↔ Q u m := by
  have e1 : idxU (.tup us) (.int i) m = (atI us i).map fun u => (u, m) := rfl
  rw [e1, e]
  exact Iff.rfl
theorem ok_mkFl {us : List U} (h : lineOk us.length = true) : okP (mkFl us m) Q ↔ Q (.fl us) m := by
  unfold mkFl
  rw [if_pos h]
  exact Iff.rfl
theorem ok_mkLst {us : List U} (h : lineOk us.length = true) : okP (mkLst us m) Q ↔ Q (.ref m.length) (m ++ [.lst us]) := by
  unfold mkLst
  rw [if_pos h]
  exact Iff.rfl
theorem ok_mkTup {us : List U} (h : lineOk us.length = true) : okP (mkTup us m) Q ↔ Q (.tup us) m := by
  unfold mkTup
  rw [if_pos h]
  exact Iff.rfl
theorem ixN_nat {n : Nat} {i : Int} (h0 : 0 ≤ i) (h1 : i < n) : ixN n i = some i.toNat := by
  unfold ixN
  rw [if_pos h0, if_pos h1]
theorem atI_nat {α : Type} {us : List α} {i : Int} (h0 : 0 ≤ i) (h1 : i < us.length) : atI us i = us[i.toNat]? := by
  unfold atI ixN
  rw [if_pos h0, if_pos h1]
  rfl
theorem atI_0 {α : Type} {us : List α} {a : α} : atI (a :: us) 0 = some a := by
  rw [atI_nat (Int.le_refl _) (by rw [List.length_cons]; omega)]
  rfl
theorem atI_last {α : Type} {us : List α} {a : α} : atI (us ++ [a]) (-1) = some a := by
  unfold atI ixN
  rw [if_neg (by decide)]
  have h : (-((us ++ [a]).length : Int)) ≤ -1 := by rw [List.length_append]; simp; omega
  rw [if_pos h]
  have e : (-1 + ((us ++ [a]).length : Int)).toNat = us.length := by rw [List.length_append]; simp; omega
  show (us ++ [a])[(-1 + ((us ++ [a]).length : Int)).toNat]? = _
  rw [e, List.getElem?_append_right (Nat.le_refl _), Nat.sub_self]
  rfl
theorem ok_pop0 {g : Nat} {u : U} {us : List U} (h : m[g]? = some (.lst (u :: us))) : okP (mePop (.ref g) [.int 0] m) Q ↔ Q u (m.set g (.lst us)) := by
  have e : mePop (.ref g) [.int 0] m = some (u, m.set g (.lst us)) := by
    unfold mePop lstAt
    simp only [h, Option.bind_some]
    have e2 : ixN (u :: us).length 0 = some 0 := by
      unfold ixN
      rw [if_pos (Int.le_refl _), if_pos (by rw [List.length_cons]; omega)]
      rfl
    rw [e2]
    rfl
  rw [e]
  exact Iff.rfl
theorem recv_lst {g : Nat} {us : List U} (h : m[g]? = some (.lst us)) : recvK (.ref g) m = some "list" := by
  unfold recvK
  simp only [h]
theorem ok_append {g : Nat} {u : U} {us : List U} (h : m[g]? = some (.lst us)) (hl : lineOk (us.length + 1) = true) : okP (meAppend (.ref g) [u] m) Q ↔ Q .non (m.set g (.lst (us ++ [u]))) := by
  have e : meAppend (.ref g) [u] m = some (.non, m.set g (.lst (us ++ [u]))) := by
    unfold meAppend lstAt
    simp only [h, Option.bind_some, hl, if_true]
  rw [e]
  exact Iff.rfl
theorem ok_setL {n : Nat} {us : List U} {k : Int} {j : Nat} {u : U} {P : MH → Prop} (h : m[n]? = some (.lst us)) (hj : ixN us.length k = some j) (q : P (m.set n (.lst (us.set j u)))) : ∃ m3, setU (.ref n) (.int k) u m = some m3 ∧ P m3 := by
  refine ⟨_, ?_, q⟩
  unfold setU
  simp only [h, hj, Option.map_some]
theorem ok_lenF {us : List U} : okP (biLen [.fl us] m) Q ↔ Q (.int us.length) m := Iff.rfl
theorem ok_lenS {x : Str} (h : lineOk x.length = true) : okP (biLen [.str x] m) Q ↔ Q (.int x.length) m := by
  have e : biLen [.str x] m = some (.int x.length, m) := by
    show (if lineOk x.length = true then some x.length else none).map _ = _
    rw [if_pos h]
    rfl
  rw [e]
  exact Iff.rfl
theorem ok_lenR {g : Nat} {us : List U} (h : m[g]? = some (.lst us)) : okP (biLen [.ref g] m) Q ↔ Q (.int us.length) m := by
  have e : biLen [.ref g] m = some (.int us.length, m) := by
    unfold biLen lenU
    simp only [h, Option.map_some]
  rw [e]
  exact Iff.rfl
/-- a method of a built-in thing -/
theorem ok_meth {T : Tab} {name : Str} {kind : String} {phi : MU} {n : Nat} {o : E1} {a b : Fn1 (List U)} {t : Env1} (hk : methTab name kind = some phi)
    (h : okO (o t m) fun u m1 => recvK u m1 = some kind ∧ okO (a t m1) fun us m2 => us.length = n ∧ okP (phi u us m2) Q) : okO (cMeth T name n [] o a b t m) Q := by
  unfold cMeth
  rw [okO_bind]
  refine okO_mono h fun u m1 ⟨h1, h2⟩ => ?_
  simp only [h1, hk, if_true]
  rw [okO_bind]
  refine okO_mono h2 fun us m2 ⟨h3, h4⟩ => ?_
  rw [if_pos h3, okO_ofO]
  exact h4
end
/-! ### lists of whole numbers -/
theorem lay_ints : ∀ gs : List Int, layUs (gs.map U.int) = true
  | [] => rfl
  | g :: gs => by
    show (layU (.int g) && layUs (gs.map U.int)) = true
    rw [lay_ints gs]
    rfl
theorem dep_ints : ∀ gs : List Int, depUs (gs.map U.int) = 0
  | [] => rfl
  | g :: gs => by
    show max (depU (.int g)) (depUs (gs.map U.int)) = 0
    rw [dep_ints gs]
    rfl
theorem okD_ints (gs : List Int) : okD (.fl (gs.map U.int)) = true := by
  unfold okD
  show (layUs (gs.map U.int) && decide (depUs (gs.map U.int) + 1 ≤ 50)) = true
  rw [lay_ints, dep_ints]
  rfl
theorem eqv_nil (l : List PyData) : PyData.eqv (.list l) (.list []) = l.isEmpty := by
  cases l <;> rfl
theorem deref_lst {m : MH} {g : Nat} {us : List U} (h : m[g]? = some (.lst us)) : deref (.ref g) m = .fl us := by
  unfold deref
  simp only [h]
theorem toDs_empty (us : List U) : (toDs us).isEmpty = us.isEmpty := by
  cases us <;> rfl
theorem eq_nil_ref {m : MH} {g : Nat} {gs : List Int} (h : m[g]? = some (.lst (gs.map U.int))) : eqB (.ref g) (.fl []) m = some gs.isEmpty := by
  unfold eqB
  show (if (okD (deref (.ref g) m) && okD (.fl [])) = true then some (PyData.eqv (toD (deref (.ref g) m)) (.list [])) else none) = _
  rw [deref_lst h, okD_ints]
  show (if (true && okD (.fl [])) = true then some (PyData.eqv (.list (toDs (gs.map U.int))) (.list [])) else none) = _
  rw [if_pos (show (true && okD (.fl [])) = true from rfl), eqv_nil, toDs_empty]
  cases gs <;> rfl
theorem eq_nil_fl {m : MH} {gs : List Int} : eqB (.fl (gs.map U.int)) (.fl []) m = some gs.isEmpty := by
  unfold eqB
  show (if (okD (.fl (gs.map U.int)) && okD (.fl [])) = true then some (PyData.eqv (.list (toDs (gs.map U.int))) (.list [])) else none) = _
  rw [okD_ints, if_pos (show (true && okD (.fl [])) = true from rfl), eqv_nil, toDs_empty]
  cases gs <;> rfl
/-! ### _law_bag, _law_draw -/
def bigM : Int := 618970019642690137449562111
structure BagG (m : MH) (b g : Nat) (gs ls : List Int) (n s : Int) : Prop where
  hb : m[b]? = some (.lst [.ref g, .fl (ls.map U.int), .int n, .int s])
  hg : m[g]? = some (.lst (gs.map U.int))
  ne : b ≠ g
  len : gs.length ≤ 63
  l0 : ls ≠ []
  lb : ∀ x ∈ ls, 0 ≤ x ∧ x < 10 ^ 18
  n0 : 0 ≤ n
  s0 : 0 ≤ s
  s1 : s < bigM
def Bag (m : MH) (b g : Nat) (N : Nat) : Prop := ∃ gs ls n s, BagG m b g gs ls n s ∧ n ≤ (N : Int)
/-- nothing beside the bag has changed -/
def Fr (b g : Nat) (m m' : MH) : Prop := m'.length = m.length ∧ ∀ i, i ≠ b → i ≠ g → m'[i]? = m[i]?
theorem Fr.refl (b g : Nat) (m : MH) : Fr b g m m := ⟨rfl, fun _ _ _ => rfl⟩
theorem Fr.trans {b g : Nat} {m m1 m2 : MH} (a : Fr b g m m1) (c : Fr b g m1 m2) : Fr b g m m2 := ⟨c.1.trans a.1, fun i h1 h2 => (c.2 i h1 h2).trans (a.2 i h1 h2)⟩
theorem Fr.setB {b g : Nat} {m : MH} {o : MO} : Fr b g m (m.set b o) := ⟨List.length_set, fun i h1 _ => List.getElem?_set_ne (Ne.symm h1)⟩
theorem Fr.setG {b g : Nat} {m : MH} {o : MO} : Fr b g m (m.set g o) := ⟨List.length_set, fun i _ h2 => List.getElem?_set_ne (Ne.symm h2)⟩
theorem get_lt {m : MH} {b : Nat} {o : MO} (h : m[b]? = some o) : b < m.length := (List.getElem?_eq_some_iff.mp h).1
theorem get_set {m : MH} {b : Nat} {o o' : MO} (h : m[b]? = some o) : (m.set b o')[b]? = some o' := List.getElem?_set_self (get_lt h)
def c_draw (T : Tab) : S1 := (sSeq (sWhile (cAnd (cIsBl (cBin neU (cBin idxU (cVar 0) (cK (.int 0))) (cFn mkFl cNil))) (cIsBl (cBin eqU (cBin idxU (cBin idxU (cVar 0) (cK (.int 0))) (cK (.int 0))) (cK (.int 0))))) (sSeq (sDrop (cMeth T "pop" 1 [] (cBin idxU (cVar 0) (cK (.int 0))) (cCons (cK (.int 0)) cNil) cNil)) sNx) 70) (sSeq (sIf (cIsBl (cBin neU (cBin idxU (cVar 0) (cK (.int 0))) (cFn mkFl cNil))) (sSeq (sAsg (cBin modU (cBin idxU (cBin idxU (cVar 0) (cK (.int 0))) (cK (.int 0))) (cVar 1)) (gName 3)) (sSeq (sAsg (cBin fdivU (cBin idxU (cBin idxU (cVar 0) (cK (.int 0))) (cK (.int 0))) (cVar 1)) (gSubU (cBin idxU (cVar 0) (cK (.int 0))) (cK (.int 0)))) (sSeq (sRet (cVar 3)) sNx))) sNx) (sSeq (sAsg (cBin addU (cBin idxU (cVar 0) (cK (.int 2))) (cK (.int 1))) (gSubU (cVar 0) (cK (.int 2)))) (sSeq (sAsg (cBin idxU (cBin idxU (cVar 0) (cK (.int 1))) (cBin modU (cBin idxU (cVar 0) (cK (.int 2))) (cFn biLen (cCons (cBin idxU (cVar 0) (cK (.int 1))) cNil)))) (gName 2)) (sSeq (sAsg (cBin modU (cBin powU (cBin addU (cBin idxU (cVar 0) (cK (.int 3))) (cBin mulU (cBin addU (cVar 2) (cBin mulU (cK (.int 3)) (cBin idxU (cVar 0) (cK (.int 2))))) (cBin addU (cBin mulU (cK (.int 2)) (cBin idxU (cVar 0) (cK (.int 2)))) (cK (.int 1))))) (cK (.int 7))) (cK (.int 618970019642690137449562111))) (gSubU (cVar 0) (cK (.int 3)))) (sSeq (sRet (cBin modU (cBin fdivU (cBin idxU (cVar 0) (cK (.int 3))) (cK (.int 65536))) (cVar 1))) sNx))))))
section
variable {m : MH} {b g : Nat} {gs ls : List Int} {n s : Int}
theorem BagG.at0 (h : BagG m b g gs ls n s) {Q : U → MH → Prop} : okP (idxU (.ref b) (.int 0) m) Q ↔ Q (.ref g) m := ok_idxL h.hb rfl
theorem BagG.at1 (h : BagG m b g gs ls n s) {Q : U → MH → Prop} : okP (idxU (.ref b) (.int 1) m) Q ↔ Q (.fl (ls.map U.int)) m := ok_idxL h.hb rfl
theorem BagG.at2 (h : BagG m b g gs ls n s) {Q : U → MH → Prop} : okP (idxU (.ref b) (.int 2) m) Q ↔ Q (.int n) m := ok_idxL h.hb rfl
theorem BagG.at3 (h : BagG m b g gs ls n s) {Q : U → MH → Prop} : okP (idxU (.ref b) (.int 3) m) Q ↔ Q (.int s) m := ok_idxL h.hb rfl
theorem BagG.atG {x : Int} (h : BagG m b g (x :: gs) ls n s) {Q : U → MH → Prop} : okP (idxU (.ref g) (.int 0) m) Q ↔ Q (.int x) m := ok_idxL h.hg atI_0
theorem BagG.setG (h : BagG m b g gs ls n s) {gs' : List Int} (hl : gs'.length ≤ 63) : BagG (m.set g (.lst (gs'.map U.int))) b g gs' ls n s :=
  ⟨by rw [List.getElem?_set_ne (Ne.symm h.ne)]; exact h.hb, get_set h.hg, h.ne, hl, h.l0, h.lb, h.n0, h.s0, h.s1⟩
theorem BagG.setB (h : BagG m b g gs ls n s) {n' s' : Int} (h1 : 0 ≤ n') (h2 : 0 ≤ s') (h3 : s' < bigM) : BagG (m.set b (.lst [.ref g, .fl (ls.map U.int), .int n', .int s'])) b g gs ls n' s' :=
  ⟨get_set h.hb, by rw [List.getElem?_set_ne h.ne]; exact h.hg, h.ne, h.len, h.l0, h.lb, h1, h2, h3⟩
theorem nat_lt {x : Int} (k n : Nat) (h0 : 0 ≤ x) (h1 : x < (2 : Int) ^ k) (h2 : k ≤ n) : x.natAbs < 2 ^ n := by
  have e : (x.natAbs : Int) = x := Int.natAbs_of_nonneg h0
  have h3 : (x.natAbs : Int) < ((2 ^ k : Nat) : Int) := by
    rw [e]
    exact_mod_cast h1
  exact Nat.lt_of_lt_of_le (Int.ofNat_lt.mp h3) (Nat.pow_le_pow_right (by decide) h2)
theorem draw_ok {T : Tab} {N : Nat} {k : Int} (h : Bag m b g N) (hN : N < 10 ^ 9) (hk : 0 < k) (hk2 : k < 2 ^ 200) :
    okS (c_draw T [some (.ref b), some (.int k), none, none] m) (fun _ _ => False) fun v m' => ∃ i, v = .int i ∧ 0 ≤ i ∧ i < k ∧ Bag m' b g (N + 1) ∧ Fr b g m m' := by
  obtain ⟨gs, ls, n, s, h, hn⟩ := h
  unfold c_draw
  rw [ok_sSeq]
  refine ok_while (fun j t m' => t = [some (.ref b), some (.int k), none, none] ∧ ∃ gs', BagG m' b g gs' ls n s ∧ Fr b g m m' ∧ gs'.length = j) ?_ 70 gs.length _ m (by have := h.len; omega) ⟨rfl, gs, h, Fr.refl _ _ _, rfl⟩
  rintro j t m1 ⟨rfl, gs1, h1, f1, rfl⟩
  have dk : divOk k = true := by
    unfold divOk
    rw [Bool.and_eq_true, decide_eq_true_eq, decide_eq_true_eq]
    exact ⟨hk, nat_lt 200 1000 (by omega) hk2 (by decide)⟩
  -- behind the loop: nothing left there, or a number that isn't 0
  have rest : okS (sSeq (sIf (cIsBl (cBin neU (cBin idxU (cVar 0) (cK (.int 0))) (cFn mkFl cNil))) (sSeq (sAsg (cBin modU (cBin idxU (cBin idxU (cVar 0) (cK (.int 0))) (cK (.int 0))) (cVar 1)) (gName 3)) (sSeq (sAsg (cBin fdivU (cBin idxU (cBin idxU (cVar 0) (cK (.int 0))) (cK (.int 0))) (cVar 1)) (gSubU (cBin idxU (cVar 0) (cK (.int 0))) (cK (.int 0)))) (sSeq (sRet (cVar 3)) sNx))) sNx) (sSeq (sAsg (cBin addU (cBin idxU (cVar 0) (cK (.int 2))) (cK (.int 1))) (gSubU (cVar 0) (cK (.int 2)))) (sSeq (sAsg (cBin idxU (cBin idxU (cVar 0) (cK (.int 1))) (cBin modU (cBin idxU (cVar 0) (cK (.int 2))) (cFn biLen (cCons (cBin idxU (cVar 0) (cK (.int 1))) cNil)))) (gName 2)) (sSeq (sAsg (cBin modU (cBin powU (cBin addU (cBin idxU (cVar 0) (cK (.int 3))) (cBin mulU (cBin addU (cVar 2) (cBin mulU (cK (.int 3)) (cBin idxU (cVar 0) (cK (.int 2))))) (cBin addU (cBin mulU (cK (.int 2)) (cBin idxU (cVar 0) (cK (.int 2)))) (cK (.int 1))))) (cK (.int 7))) (cK (.int 618970019642690137449562111))) (gSubU (cVar 0) (cK (.int 3)))) (sSeq (sRet (cBin modU (cBin fdivU (cBin idxU (cVar 0) (cK (.int 3))) (cK (.int 65536))) (cVar 1))) sNx)))) [some (.ref b), some (.int k), none, none] m1) (fun _ _ => False) fun v m' => ∃ i, v = .int i ∧ 0 ≤ i ∧ i < k ∧ Bag m' b g (N + 1) ∧ Fr b g m m' := by
    have dk6 : divOk 65536 = true := rfl
    simp only [ok_sSeq, ok_sIf, ok_cIsBl, ok_cBin, ok_cVar0, ok_cK, h1.at0, ok_cFn, ok_cNil, ok_mkFl (us := []) rfl, ok_neOf (eq_nil_ref h1.hg), ok_blOf]
    cases gs1 with
    | cons x gs1 =>
      refine ⟨fun _ => ?_, fun z => (nomatch z)⟩
      simp only [ok_sAsg, ok_cBin, ok_cVar0, ok_cVarS, ok_cK, h1.at0, h1.atG, ok_mod hk, ok_gName, ok_gSubU, ok_div dk, ok_sRet, List.set_cons_succ, List.set_cons_zero]
      refine ok_setL h1.hg (j := 0) (ixN_nat (Int.le_refl _) (by rw [List.length_map, List.length_cons]; omega)) ?_
      have h2 := h1.setG (gs' := (x / k) :: gs1) (by have := h1.len; simpa using this)
      exact ⟨x % k, rfl, Int.emod_nonneg _ (by omega), Int.emod_lt_of_pos _ hk, ⟨_, _, _, _, h2, by omega⟩, f1.trans Fr.setG⟩
    | nil =>
      refine ⟨fun z => (nomatch z), fun _ => ?_⟩
      simp only [ok_sNx, ok_sSeq, ok_sAsg, ok_cBin, ok_cVar0, ok_cVarS, ok_cK, h1.at2, ok_add, ok_gName, ok_gSubU]
      refine ok_setL h1.hb (j := 2) rfl ?_
      have h2 := h1.setB (n' := n + 1) (s' := s) (by have := h1.n0; omega) h1.s0 h1.s1
      have hl : 0 < (ls.map U.int).length := by
        rw [List.length_map]
        exact List.length_pos_iff.mpr h1.l0
      have hl' : (0 : Int) < ((ls.map U.int).length : Int) := by omega
      simp only [List.set_cons_succ, List.set_cons_zero] at h2 ⊢
      simp only [ok_sAsg, ok_cBin, ok_cVar0, ok_cVarS, ok_cK, h2.at1, h2.at2, ok_cFn, ok_cCons, ok_cNil, ok_lenF, ok_mod hl', ok_gName]
      have i0 : 0 ≤ (n + 1) % ((ls.map U.int).length : Int) := Int.emod_nonneg _ (by omega)
      have i1 : (n + 1) % ((ls.map U.int).length : Int) < ((ls.map U.int).length : Int) := Int.emod_lt_of_pos _ hl'
      obtain ⟨y, ey, hy⟩ : ∃ y, atI (ls.map U.int) ((n + 1) % ((ls.map U.int).length : Int)) = some (.int y) ∧ y ∈ ls := by
        rw [atI_nat i0 i1, List.getElem?_map]
        have : ((n + 1) % ((ls.map U.int).length : Int)).toNat < ls.length := by
          rw [List.length_map] at i1 i0 ⊢
          omega
        rw [List.getElem?_eq_getElem this]
        exact ⟨_, rfl, List.getElem_mem _⟩
      obtain ⟨y0, y1⟩ := h1.lb y hy
      have hnN : n + 1 ≤ (N : Int) + 1 := by omega
      have hN' : (N : Int) < 10 ^ 9 := by exact_mod_cast hN
      have n0 := h1.n0
      have s0 := h1.s0
      have s1 := h1.s1
      unfold bigM at s1
      have m1ok : mulOk 3 (n + 1) = true := by
        unfold mulOk
        rw [Bool.or_eq_true, Bool.or_eq_true]
        exact .inl (.inl rfl)
      have m2ok : mulOk 2 (n + 1) = true := by
        unfold mulOk
        rw [Bool.or_eq_true, Bool.or_eq_true]
        exact .inl (.inl rfl)
      have b2 : 2 * (n + 1) + 1 < 4 * 10 ^ 9 := by omega
      have m3ok : mulOk (y + 3 * (n + 1)) (2 * (n + 1) + 1) = true := by
        unfold mulOk
        rw [Bool.or_eq_true, Bool.or_eq_true, decide_eq_true_eq, decide_eq_true_eq]
        exact .inl (.inr (by omega))
      have p0 : 0 ≤ (y + 3 * (n + 1)) * (2 * (n + 1) + 1) := Int.mul_nonneg (by omega) (by omega)
      have p1 : (y + 3 * (n + 1)) * (2 * (n + 1) + 1) ≤ (2 * 10 ^ 18) * (4 * 10 ^ 9) := Int.mul_le_mul (by omega) (by omega) (by omega) (by omega)
      have pok : powOk (s + (y + 3 * (n + 1)) * (2 * (n + 1) + 1)) 7 = true := by
        unfold powOk
        have e1 : (decide (0 ≤ (7 : Int)) && decide ((7 : Int) ≤ 100)) = true := rfl
        rw [e1, Bool.true_and, decide_eq_true_eq]
        exact nat_lt 100 1000 (by omega) (by omega) (by decide)
      simp only [ok_idxF ey, ok_gName, List.set_cons_succ, List.set_cons_zero, ok_cBin, ok_sSeq, ok_sAsg, ok_cVar0, ok_cVarS, ok_cK, h2.at3, h2.at2, ok_mul m1ok, ok_mul m2ok, ok_add, ok_mul m3ok, ok_pow pok, ok_mod (show (0 : Int) < 618970019642690137449562111 by decide), ok_gSubU]
      refine ok_setL h2.hb (j := 3) rfl ?_
      generalize he : (s + (y + 3 * (n + 1)) * (2 * (n + 1) + 1)) ^ (Int.toNat 7) % 618970019642690137449562111 = s2
      have z0 : 0 ≤ s2 := by rw [← he]; exact Int.emod_nonneg _ (by decide)
      have z1 : s2 < bigM := by rw [← he]; exact Int.emod_lt_of_pos _ (by decide)
      have h3 := h2.setB (n' := n + 1) (s' := s2) (by omega) z0 z1
      simp only [List.set_cons_succ, List.set_cons_zero] at h3 ⊢
      simp only [ok_sRet, ok_cBin, ok_cVar0, ok_cVarS, ok_cK, h3.at3, ok_div dk6, ok_mod hk]
      exact ⟨_, rfl, Int.emod_nonneg _ (by omega), Int.emod_lt_of_pos _ hk, ⟨_, _, _, _, h3, by omega⟩, (f1.trans Fr.setB).trans Fr.setB⟩
  simp only [ok_cAnd, ok_cIsBl, ok_cBin, ok_cVar0, ok_cK, h1.at0, ok_cFn, ok_cNil, ok_mkFl (us := []) rfl, ok_neOf (eq_nil_ref h1.hg), ok_blOf]
  cases gs1 with
  | nil =>
    refine ⟨fun z => (nomatch z), fun _ => ⟨fun z => (nomatch z), fun _ => rest⟩⟩
  | cons x gs1 =>
    refine ⟨fun _ => ?_, fun z => (nomatch z)⟩
    simp only [h1.atG, ok_eqI, ok_blOf]
    refine ⟨fun _ => ?_, fun _ => rest⟩
    simp only [ok_sSeq, ok_sDrop, ok_sNx]
    refine ok_meth (kind := "list") (phi := mePop) rfl ?_
    simp only [ok_cBin, ok_cVar0, ok_cK, h1.at0, ok_cCons, ok_cNil, ok_pop0 h1.hg]
    exact ⟨recv_lst h1.hg, rfl, _, Nat.lt_succ_self _, trivial, gs1, h1.setG (by have := h1.len; simp at this; omega), f1.trans Fr.setG, rfl⟩
end
end Mi
/-! Mi, part Y: _law_bag, _law_count. -/
namespace Mi
open PySem PySem.Spec PyProof.Rows L2
set_option linter.unusedVariables false
set_option linter.unusedSimpArgs false
set_option maxRecDepth 10000
set_option exponentiation.threshold 2000
section
variable {Q : U → MH → Prop} {m : MH}
theorem ok_slcC {us : List U} {lo hi : Option Int} : okP (slcU (.cl us) lo hi m) Q ↔ Q (.fl (cutU us lo hi)) m := Iff.rfl
theorem ok_slcF {us : List U} {lo hi : Option Int} : okP (slcU (.fl us) lo hi m) Q ↔ Q (.fl (cutU us lo hi)) m := Iff.rfl
theorem cut_ints (ns : List Int) (lo hi : Option Int) : ∃ ks : List Int, cutU (ns.map U.int) lo hi = ks.map U.int ∧ ks.length ≤ ns.length := by
  unfold cutU
  refine ⟨(ns.drop (HT.sIx (ns.map U.int).length 0 lo)).take (HT.sIx (ns.map U.int).length (ns.map U.int).length hi - HT.sIx (ns.map U.int).length 0 lo), ?_, ?_⟩
  · rw [List.map_take, List.map_drop]
  · rw [List.length_take, List.length_drop]
    omega
theorem ok_addF {us ws : List U} (h : lineOk (us.length + ws.length) = true) : okP (addU (.fl us) (.fl ws) m) Q ↔ Q (.fl (us ++ ws)) m := by
  have e : addU (.fl us) (.fl ws) m = some (.fl (us ++ ws), m) := by
    unfold addU seqW
    simp only [h, if_true]
  rw [e]
  exact Iff.rfl
theorem line_le {n k : Nat} (h : n ≤ k) (hk : k ≤ 16777216) : lineOk n = true := decide_eq_true (Nat.le_trans h hk)
theorem map_get {ks : List Int} {i : Nat} {u : U} (h : (ks.map U.int)[i]? = some u) : ∃ x, u = .int x ∧ ks[i]? = some x := by
  rw [List.getElem?_map] at h
  cases e : ks[i]? with
  | none =>
    rw [e] at h
    cases h
  | some x =>
    rw [e] at h
    cases h
    exact ⟨x, rfl, rfl⟩
end
def c_bag : S1 := (sSeq (sAsg (cLc true (cIt (cSlice (cVar 0) none (some (cK (.int 63))))) (gName 4) (cIsBl (cBin (cmpI geI) (cVar 4) (cBin powU (cK (.int 10)) (cK (.int 18))))) (cBin subU (cVar 4) (cBin powU (cK (.int 10)) (cK (.int 18)))) [4]) (gName 1)) (sSeq (sAsg (cLc false (cIt (cSlice (cVar 0) none (some (cK (.int 63))))) (gName 4) (cIsBl (cBin (cmpI ltI) (cVar 4) (cBin powU (cK (.int 10)) (cK (.int 18))))) (cBin modU (cVar 4) (cBin powU (cK (.int 10)) (cK (.int 18)))) [4]) (gName 2)) (sSeq (sAsg (cK (.int 5)) (gName 3)) (sSeq (sFor (cIt (cVar 2)) (gName 4) (sSeq (sAsg (cBin modU (cBin powU (cBin addU (cBin addU (cVar 3) (cVar 4)) (cK (.int 1))) (cK (.int 7))) (cK (.int 618970019642690137449562111))) (gName 3)) sNx)) (sSeq (sRet (cFn mkLst (cCons (cVar 1) (cCons (cBin addU (cVar 2) (cFn mkFl (cCons (cK (.int 0)) cNil))) (cCons (cK (.int 0)) (cCons (cVar 3) cNil)))))) sNx)))))
theorem bag_ok {m : MH} {ns : List Int} (hl : ns.length ≤ 63) : okS (c_bag [some (.cl (ns.map U.int)), none, none, none, none] m) (fun _ _ => False) fun v m' => v = .ref (m.length + 1) ∧ Bag m' (m.length + 1) m.length 0 ∧ m'.length = m.length + 2 ∧ ∀ i, i < m.length → m'[i]? = m[i]? := by
  obtain ⟨ks, ek, hk⟩ := cut_ints ns none (some 63)
  have hk63 : ks.length ≤ 63 := Nat.le_trans hk hl
  have pe : powOk 10 18 = true := rfl
  have hlk : lineOk (constIt (ks.map U.int)).len = true := by
    show lineOk (ks.map U.int).length = true
    rw [List.length_map]
    exact line_le hk63 (by decide)
  have h18 : (0 : Int) < (10 : Int) ^ (Int.toNat 18) := by decide
  unfold c_bag
  simp only [ok_sSeq, ok_sAsg, ok_cLc, ok_cIt, ok_cSlice, ok_cVar0, ok_cPart_none, ok_cPart_some, ok_cK, okI_int, ok_slcC, ek, ok_itOf_fl, hlk, true_and]
  refine ok_lc (fun i acc m1 => m1 = m ∧ ∃ gs : List Int, acc = gs.map U.int ∧ gs.length ≤ i) ⟨rfl, [], rfl, Nat.le_refl _⟩ ?_ ?_
  · rintro i u acc m1 hu ⟨rfl, gs, rfl, hg⟩
    obtain ⟨x, rfl, hx⟩ := map_get hu
    simp only [ok_gName, wipeU, List.set_cons_succ, List.set_cons_zero, ok_cIsBl, ok_cBin, ok_cVarS, ok_cVar0, ok_cK, ok_pow pe, ok_cmpI, ok_blOf, ok_sub]
    exact ⟨fun _ => ⟨trivial, gs ++ [_], by rw [List.map_append]; rfl, by rw [List.length_append]; exact Nat.succ_le_succ hg⟩, fun _ => ⟨trivial, gs, rfl, by omega⟩⟩
  rintro acc m1 ⟨rfl, gs, rfl, hg⟩
  rw [List.length_map] at hg
  have hg63 : gs.length ≤ 63 := Nat.le_trans hg hk63
  simp only [flP, ok_gName, List.set_cons_succ, List.set_cons_zero, ok_cVar0, ok_cK, okI_int, ok_slcC, ek, ok_itOf_fl, hlk, true_and]
  refine ok_lc (fun i acc m2 => m2 = m1 ++ [.lst (gs.map U.int)] ∧ ∃ ls : List Int, acc = ls.map U.int ∧ ls.length ≤ i ∧ ∀ x ∈ ls, 0 ≤ x ∧ x < 10 ^ 18) ⟨rfl, [], rfl, Nat.le_refl _, fun _ h => (nomatch h)⟩ ?_ ?_
  · rintro i u acc m2 hu ⟨rfl, ls, rfl, hls, hb⟩
    obtain ⟨x, rfl, hx⟩ := map_get hu
    simp only [ok_gName, wipeU, List.set_cons_succ, List.set_cons_zero, ok_cIsBl, ok_cBin, ok_cVarS, ok_cVar0, ok_cK, ok_pow pe, ok_cmpI, ok_blOf, ok_mod h18]
    refine ⟨fun _ => ⟨trivial, ls ++ [x % 10 ^ (Int.toNat 18)], by rw [List.map_append]; rfl, by rw [List.length_append]; exact Nat.succ_le_succ hls, fun y hy => ?_⟩, fun _ => ⟨trivial, ls, rfl, by omega, hb⟩⟩
    rcases List.mem_append.mp hy with hy | hy
    · exact hb y hy
    · rw [List.mem_singleton.mp hy]
      exact ⟨Int.emod_nonneg _ (by decide), Int.emod_lt_of_pos _ h18⟩
  rintro acc m2 ⟨rfl, ls, rfl, hls, hb⟩
  rw [List.length_map] at hls
  have hls63 : ls.length ≤ 63 := Nat.le_trans hls hk63
  simp only [flP, ok_gName, List.set_cons_succ, List.set_cons_zero, ok_cK, ok_sFor, ok_cIt, ok_cVarS, ok_cVar0, ok_itOf_fl]
  refine ok_loop (us := ls.map U.int) (fun i t m2 => m2 = m1 ++ [.lst (gs.map U.int)] ∧ ∃ s c, t = [some (.cl (ns.map U.int)), some (.ref m1.length), some (.fl (ls.map U.int)), some (.int s), c] ∧ 0 ≤ s ∧ s < bigM) ⟨rfl, 5, none, rfl, by decide, by decide⟩ ?_ ?_
  · rintro i u t m2 hu ⟨rfl, s, c, rfl, s0, s1⟩
    obtain ⟨x, rfl, hx⟩ := map_get hu
    obtain ⟨x0, x1⟩ := hb x (List.mem_of_getElem? hx)
    unfold bigM at s1
    have pok : powOk (s + x + 1) 7 = true := by
      unfold powOk
      have e1 : (decide (0 ≤ (7 : Int)) && decide ((7 : Int) ≤ 100)) = true := rfl
      rw [e1, Bool.true_and, decide_eq_true_eq]
      exact nat_lt 100 1000 (by omega) (by omega) (by decide)
    simp only [ok_gName, List.set_cons_succ, List.set_cons_zero, ok_sSeq, ok_sAsg, ok_cBin, ok_cVarS, ok_cVar0, ok_cK, ok_add, ok_pow pok, ok_mod (show (0 : Int) < 618970019642690137449562111 by decide), ok_sNx]
    exact ⟨trivial, _, _, rfl, Int.emod_nonneg _ (by decide), Int.emod_lt_of_pos _ (by decide)⟩
  rintro t m2 ⟨rfl, s, c, rfl, s0, s1⟩
  have l1 : lineOk ((ls.map U.int).length + [U.int 0].length) = true := by
    rw [List.length_map]
    exact line_le (k := 64) (by show ls.length + 1 ≤ 64; omega) (by decide)
  simp only [ok_sRet, ok_cFn, ok_cCons, ok_cVarS, ok_cVar0, ok_cBin, ok_cK, ok_cNil, ok_mkFl (us := [U.int 0]) rfl, ok_addF l1]
  rw [ok_mkLst rfl]
  have e1 : (m1 ++ [MO.lst (gs.map U.int)]).length = m1.length + 1 := by rw [List.length_append]; rfl
  rw [e1]
  refine ⟨rfl, ⟨gs, ls ++ [0], 0, s, ⟨?_, ?_, by omega, hg63, by simp, ?_, Int.le_refl _, s0, s1⟩, Int.le_refl _⟩, by rw [List.length_append, e1]; rfl, fun i hi => ?_⟩
  · rw [List.getElem?_append_right (by rw [e1]; exact Nat.le_refl _), e1, Nat.sub_self]
    rw [List.map_append]
    rfl
  · rw [List.getElem?_append_left (by rw [e1]; exact Nat.lt_succ_self _), List.getElem?_append_right (Nat.le_refl _), Nat.sub_self]
    rfl
  · intro x hx
    rcases List.mem_append.mp hx with hx | hx
    · exact hb x hx
    · rw [List.mem_singleton.mp hx]
      exact ⟨Int.le_refl _, by decide⟩
  · rw [List.getElem?_append_left (by rw [e1]; omega), List.getElem?_append_left hi]
/-! ### what a table's call of the drawing promises -/
def DrawC (call : FKey → List U → MH → Out U) : Prop := ∀ (m : MH) (b g N : Nat) (k : Int), Bag m b g N → N < 10 ^ 9 → 0 < k → k < 2 ^ 200 → okO (call ("_law_draw", none) [.ref b, .int k] m) fun v m' => ∃ i, v = .int i ∧ 0 ≤ i ∧ i < k ∧ Bag m' b g (N + 1) ∧ Fr b g m m'
def CountC (call : FKey → List U → MH → Out U) : Prop := ∀ (m : MH) (b g N : Nat), Bag m b g N → N + 2 < 10 ^ 9 → okO (call ("_law_count", none) [.ref b] m) fun v m' => ∃ i, v = .int i ∧ 0 ≤ i ∧ i < 10 ^ 15 ∧ Bag m' b g (N + 2) ∧ Fr b g m m'
theorem Bag.up {m : MH} {b g N N' : Nat} (h : Bag m b g N) (hN : N ≤ N') : Bag m b g N' := by
  obtain ⟨gs, ls, n, s, h1, h2⟩ := h
  exact ⟨gs, ls, n, s, h1, by omega⟩
def c_count (call : FKey → List U → MH → Out U) : S1 := (sSeq (sAsg (cCallK 2 0 (fun as _ m => call ("_law_draw", none) as m) (cCons (cVar 0) (cCons (cK (.int 5)) cNil)) cNil) (gName 1)) (sSeq (sIf (cIsBl (cBin (cmpI ltI) (cVar 1) (cK (.int 2)))) (sSeq (sRet (cCallK 2 0 (fun as _ m => call ("_law_draw", none) as m) (cCons (cVar 0) (cCons (cBin idxU (cFn mkFl (cCons (cK (.int 7)) (cCons (cK (.int 2000)) cNil))) (cVar 1)) cNil)) cNil)) sNx) sNx) (sSeq (sIf (cIsBl (cBin eqU (cVar 1) (cK (.int 2)))) (sSeq (sRet (cBin subU (cBin subU (cBin powU (cK (.int 10)) (cK (.int 15))) (cK (.int 1))) (cCallK 2 0 (fun as _ m => call ("_law_draw", none) as m) (cCons (cVar 0) (cCons (cK (.int 3)) cNil)) cNil))) sNx) sNx) (sSeq (sRet (cCallK 2 0 (fun as _ m => call ("_law_draw", none) as m) (cCons (cVar 0) (cCons (cBin idxU (cFn mkFl (cCons (cK (.int 40)) (cCons (cBin powU (cK (.int 10)) (cK (.int 15))) cNil))) (cBin subU (cVar 1) (cK (.int 3)))) cNil)) cNil)) sNx))))
theorem count_ok {call : FKey → List U → MH → Out U} (hd : DrawC call) {m : MH} {b g N : Nat} (h : Bag m b g N) (hN : N + 2 < 10 ^ 9) :
    okS (c_count call [some (.ref b), none] m) (fun _ _ => False) fun v m' => ∃ i, v = .int i ∧ 0 ≤ i ∧ i < 10 ^ 15 ∧ Bag m' b g (N + 2) ∧ Fr b g m m' := by
  unfold c_count
  have pe : powOk 10 15 = true := rfl
  simp only [ok_sSeq, ok_sAsg, ok_cCallK, ok_cCons, ok_cVar0, ok_cK, ok_cNil]
  refine ⟨rfl, rfl, okO_mono (hd m b g N 5 h (by omega) (by decide) (by decide)) ?_⟩
  rintro v m1 ⟨i, rfl, i0, i5, h1, f1⟩
  simp only [ok_gName, List.set_cons_succ, List.set_cons_zero, ok_sIf, ok_cIsBl, ok_cBin, ok_cVar0, ok_cVarS, ok_cK, ok_cmpI, ok_blOf, ok_sSeq, ok_sNx, ok_sRet, ok_cCallK, ok_cCons, ok_cNil, ok_cFn, ok_mkFl (us := [U.int 7, U.int 2000]) rfl, ok_eqI, ok_pow pe, ok_sub]
  have go : ∀ k : Int, 0 < k → k ≤ 10 ^ 15 → okO (call ("_law_draw", none) [.ref b, .int k] m1) fun v m' => ∃ i, v = .int i ∧ 0 ≤ i ∧ i < 10 ^ 15 ∧ Bag m' b g (N + 2) ∧ Fr b g m m' := fun k k0 k1 => by
    refine okO_mono (hd m1 b g (N + 1) k h1 (by omega) k0 (by omega)) ?_
    rintro v m2 ⟨j, rfl, j0, j1, h2, f2⟩
    exact ⟨j, rfl, j0, by omega, h2, f1.trans f2⟩
  refine ⟨fun hi => ?_, fun hi => ⟨fun h2 => ?_, fun h2 => ?_⟩⟩
  · have hi2 : i < 2 := of_decide_eq_true hi
    have : i = 0 ∨ i = 1 := by omega
    rcases this with rfl | rfl
    · rw [ok_idxF (u := .int 7) rfl]
      exact ⟨rfl, rfl, go 7 (by decide) (by decide)⟩
    · rw [ok_idxF (u := .int 2000) rfl]
      exact ⟨rfl, rfl, go 2000 (by decide) (by decide)⟩
  · refine ⟨rfl, rfl, okO_mono (hd m1 b g (N + 1) 3 h1 (by omega) (by decide) (by decide)) ?_⟩
    rintro v m2 ⟨j, rfl, j0, j1, h3, f2⟩
    simp only [ok_sub]
    exact ⟨_, rfl, by have : (10 : Int) ^ (Int.toNat 15) = 1000000000000000 := rfl; omega, by have : (10 : Int) ^ (Int.toNat 15) = 1000000000000000 := rfl; omega, h3, f1.trans f2⟩
  · have hi2 : ¬ i < 2 := of_decide_eq_false hi
    have hi3 : ¬ i = 2 := of_decide_eq_false h2
    have : i = 3 ∨ i = 4 := by omega
    rw [ok_mkFl rfl]
    rcases this with rfl | rfl
    · rw [ok_idxF (u := .int 40) rfl]
      exact ⟨rfl, rfl, go 40 (by decide) (by decide)⟩
    · rw [ok_idxF (u := .int (10 ^ (Int.toNat 15))) rfl]
      exact ⟨rfl, rfl, go _ (by decide) (by decide)⟩
end Mi
/-! Mi, part Z: texts. -/
namespace Mi
open PySem PySem.Spec PyProof.Rows L2
set_option linter.unusedVariables false
set_option linter.unusedSimpArgs false
set_option maxRecDepth 10000
/-- every sign stands below p -/
def Sg (p : Nat → Prop) (z : Str) : Prop := ∀ k ∈ z.cps.toList, p k
abbrev lawful (k : Nat) : Prop := k < 0x110000
theorem strOk_of {z : Str} (h : Sg lawful z) : PyData.strOk z = true := by
  show z.cps.all (fun x => decide (x < 1114112)) = true
  rw [Array.all_eq_true']
  intro x hx
  exact decide_eq_true (h x (Array.mem_toList_iff.mpr hx))
theorem Sg.app {p : Nat → Prop} {x y : Str} (hx : Sg p x) (hy : Sg p y) : Sg p (x ++ y) := by
  intro k hk
  have e : (x ++ y).cps = x.cps ++ y.cps := rfl
  rw [e, Array.toList_append] at hk
  rcases List.mem_append.mp hk with h | h
  · exact hx k h
  · exact hy k h
theorem len_app (x y : Str) : (x ++ y).length = x.length + y.length := by
  show (x.cps ++ y.cps).size = _
  rw [Array.size_append]
  rfl
theorem Sg.cut {p : Nat → Prop} {z : Str} (h : Sg p z) (lo hi : Option Int) : Sg p (cutS z lo hi) := by
  intro k hk
  unfold cutS at hk
  have hk' : k ∈ (z.cps.toList.drop (HT.sIx z.length 0 lo)).take (HT.sIx z.length z.length hi - HT.sIx z.length 0 lo) := by simpa using hk
  exact h k (List.mem_of_mem_drop (List.mem_of_mem_take hk'))
theorem len_cut (z : Str) (lo hi : Option Int) : (cutS z lo hi).length ≤ z.length := by
  unfold cutS
  show ((z.cps.toList.drop _).take _).toArray.size ≤ _
  rw [List.size_toArray, List.length_take, List.length_drop]
  have : z.cps.toList.length = z.length := rfl
  omega
theorem Sg.one {p : Nat → Prop} {k : Nat} (h : p k) : Sg p ⟨#[k]⟩ := by
  intro j hj
  have : j = k := by simpa using hj
  rw [this]
  exact h
theorem Sg.nil {p : Nat → Prop} : Sg p Str.empty := fun k hk => (nomatch hk)
theorem fold_mem {k : Nat} : ∀ (l : List (Array Nat)) (acc : Array Nat), k ∈ (l.foldl (· ++ ·) acc).toList → k ∈ acc.toList ∨ ∃ a ∈ l, k ∈ a.toList
  | [], acc, h => .inl h
  | a :: l, acc, h => by
    rcases fold_mem l (acc ++ a) h with h | ⟨b, hb, h⟩
    · rw [Array.toList_append] at h
      rcases List.mem_append.mp h with h | h
      · exact .inl h
      · exact .inr ⟨a, List.mem_cons_self, h⟩
    · exact .inr ⟨b, List.mem_cons_of_mem _ hb, h⟩
theorem Sg.rep {p : Nat → Prop} {z : Str} (h : Sg p z) (n : Int) : Sg p (repS z n) := by
  unfold repS
  split
  · exact Sg.nil
  · split
    · exact h
    · intro k hk
      rcases fold_mem _ _ hk with hk | ⟨a, ha, hk⟩
      · exact (nomatch hk)
      · rw [List.eq_of_mem_replicate ha] at hk
        exact h k hk
theorem len_rep (z : Str) (n : Int) : (repS z n).length ≤ z.length + n.toNat * z.length := by
  unfold repS
  split
  · exact Nat.zero_le _
  · split
    · omega
    · show (List.foldl (fun x1 x2 : Array Nat => x1 ++ x2) #[] (List.replicate n.toNat z.cps)).size ≤ _
      rw [rep_size]
      show 0 + n.toNat * z.length ≤ _
      omega
theorem glue_mem {k : Nat} {g : Array Nat} : ∀ (l : List Str) (acc : Array Nat), k ∈ (l.foldl (fun acc p => acc ++ g ++ p.cps) acc).toList → k ∈ acc.toList ∨ k ∈ g.toList ∨ ∃ a ∈ l, k ∈ a.cps.toList
  | [], acc, h => .inl h
  | a :: l, acc, h => by
    rcases glue_mem l (acc ++ g ++ a.cps) h with h | h | ⟨b, hb, h⟩
    · rw [Array.toList_append, Array.toList_append] at h
      rcases List.mem_append.mp h with h | h
      · rcases List.mem_append.mp h with h | h
        · exact .inl h
        · exact .inr (.inl h)
      · exact .inr (.inr ⟨a, List.mem_cons_self, h⟩)
    · exact .inr (.inl h)
    · exact .inr (.inr ⟨b, List.mem_cons_of_mem _ hb, h⟩)
theorem Sg.join {p : Nat → Prop} {ys : List Str} (h : ∀ y ∈ ys, Sg p y) : Sg p (Txt.join Str.empty ys) := by
  intro k hk
  have hk' : k ∈ ((ys.drop 1).foldl (fun acc p => acc ++ Str.empty.cps ++ p.cps) (ys.headD Str.empty).cps).toList := hk
  rcases glue_mem _ _ hk' with hk | hk | ⟨a, ha, hk⟩
  · cases ys with
    | nil => exact (nomatch hk)
    | cons y r => exact h y List.mem_cons_self k hk
  · exact (nomatch hk)
  · exact h a (List.mem_of_mem_drop ha) k hk
theorem glue_len : ∀ (l : List Str) (acc : Array Nat), (l.foldl (fun acc p => acc ++ Str.empty.cps ++ p.cps) acc).size = acc.size + (l.map (·.length)).sum
  | [], acc => rfl
  | a :: l, acc => by
    rw [List.foldl_cons, glue_len l, Array.size_append, Array.size_append, List.map_cons, List.sum_cons]
    show acc.size + 0 + a.length + _ = _
    omega
theorem len_join (ys : List Str) : (Txt.join Str.empty ys).length = (ys.map (·.length)).sum := by
  show ((ys.drop 1).foldl (fun acc p => acc ++ Str.empty.cps ++ p.cps) (ys.headD Str.empty).cps).size = _
  rw [glue_len]
  cases ys with
  | nil => rfl
  | cons y r => rfl
/-- upper: signs of what stands for a sign -/
theorem Sg.upper {p q : Nat → Prop} {z : Str} (h : Sg p z) (hu : ∀ c, p c → ∀ k ∈ Unicode.upperOf c, q k) : Sg q (Txt.upper z) := by
  intro k hk
  have hk' : k ∈ ((z.cps.mapIdx fun i c => (Unicode.upperOf c).toArray).flatten).toList := hk
  have hk2 : k ∈ (z.cps.mapIdx fun i c => (Unicode.upperOf c).toArray).flatten := Array.mem_toList_iff.mp hk'
  obtain ⟨a, ha, hka⟩ := Array.mem_flatten.mp hk2
  obtain ⟨i, hi, rfl⟩ := Array.mem_mapIdx.mp ha
  exact hu _ (h z.cps[i] (Array.mem_toList_iff.mpr (Array.getElem_mem hi))) k (by simpa using hka)
theorem len_upper (z : Str) : (Txt.upper z).length ≤ 3 * z.length := PyProof.Rows.len_upper z
/-! ### strings as values -/
section
variable {Q : U → MH → Prop} {m : MH}
theorem ok_addS {x y : Str} (h : lineOk (x.length + y.length) = true) : okP (addU (.str x) (.str y) m) Q ↔ Q (.str (x ++ y)) m := by
  show okP (if lineOk (x.length + y.length) = true then some (.str (x ++ y), m) else none) Q ↔ _
  rw [if_pos h]
  exact Iff.rfl
theorem ok_mulS {x : Str} {j : Int} (h : (decide (0 ≤ j) && decide (j ≤ 100000) && decide (x.length ≤ 100)) = true) : okP (mulU (.str x) (.int j) m) Q ↔ Q (.str (repS x j)) m := by
  show okP (if (decide (0 ≤ j) && decide (j ≤ 100000) && decide (x.length ≤ 100)) = true then some (.str (repS x j), m) else none) Q ↔ _
  rw [if_pos h]
  exact Iff.rfl
theorem ok_slcS {x : Str} {lo hi : Option Int} (h : lineOk x.length = true) : okP (slcU (.str x) lo hi m) Q ↔ Q (.str (cutS x lo hi)) m := by
  show okP (if lineOk x.length = true then some (.str (cutS x lo hi), m) else none) Q ↔ _
  rw [if_pos h]
  exact Iff.rfl
theorem ok_idxS {z : Str} {i : Int} {k : Nat} (h : lineOk z.length = true) (e : atI z.cps.toList i = some k) : okP (idxU (.str z) (.int i) m) Q ↔ Q (.str ⟨#[k]⟩) m := by
  have e1 : idxU (.str z) (.int i) m = some (.str ⟨#[k]⟩, m) := by
    show (if lineOk z.length = true then (atI z.cps.toList i).map fun (k : Nat) => (U.str ⟨#[k]⟩, m) else none) = _
    rw [if_pos h, e]
    rfl
  rw [e1]
  exact Iff.rfl
theorem ok_inS {x z : Str} : okP (inU (.str x) (.str z) m) Q ↔ Q (.bl (strIn x z)) m := Iff.rfl
theorem ok_ninS {x z : Str} : okP (ninU (.str x) (.str z) m) Q ↔ Q (.bl (!strIn x z)) m := Iff.rfl
theorem bls_map (l : List Bool) : blsOf (l.map U.bl) = some l := by
  induction l with
  | nil => rfl
  | cons b l ih =>
    show (blsOf (l.map U.bl)).map (b :: ·) = _
    rw [ih]
    rfl
theorem strs_map (l : List Str) : strsOf (l.map U.str) = some l := by
  induction l with
  | nil => rfl
  | cons b l ih =>
    show (strsOf (l.map U.str)).map (b :: ·) = _
    rw [ih]
    rfl
theorem ok_all {l : List Bool} : okP (biAll [.fl (l.map U.bl)] m) Q ↔ Q (.bl (l.all id)) m := by
  have e : biAll [.fl (l.map U.bl)] m = some (.bl (l.all id), m) := by
    show ((some (l.map U.bl)).bind blsOf).map _ = _
    rw [Option.bind_some, bls_map]
    rfl
  rw [e]
  exact Iff.rfl
theorem lay_strs : ∀ {l : List Str}, (∀ x ∈ l, Sg lawful x) → layUs (l.map U.str) = true
  | [], _ => rfl
  | x :: l, h => by
    show (PyData.strOk x && layUs (l.map U.str)) = true
    rw [strOk_of (h x List.mem_cons_self), lay_strs fun y hy => h y (List.mem_cons_of_mem _ hy)]
    rfl
theorem dep_strs : ∀ l : List Str, depUs (l.map U.str) = 0
  | [] => rfl
  | x :: l => by
    show max (depU (.str x)) (depUs (l.map U.str)) = 0
    rw [dep_strs l]
    rfl
theorem eq_nil_strs {l : List Str} (h : ∀ x ∈ l, Sg lawful x) : eqB (.fl (l.map U.str)) (.fl []) m = some l.isEmpty := by
  unfold eqB
  have e : okD (.fl (l.map U.str)) = true := by
    show (layUs (l.map U.str) && decide (depUs (l.map U.str) + 1 ≤ 50)) = true
    rw [lay_strs h, dep_strs]
    rfl
  show (if (okD (.fl (l.map U.str)) && okD (.fl [])) = true then some (PyData.eqv (.list (toDs (l.map U.str))) (.list [])) else none) = _
  rw [e, if_pos (show (true && okD (.fl [])) = true from rfl), eqv_nil, toDs_empty]
  cases l <;> rfl
end
end Mi
/-! law_k01_names_and_seals: data, head, what each def does, by own values. -/
namespace K01
open PySem PySem.Spec PyProof.Rows L2 Mi
set_option linter.unusedVariables false
set_option maxRecDepth 100000
abbrev OL : PySem.W.OpenLaw := PySem.Challenge.rw_coinlanes_k01_names_and_seals
abbrev R : PySem.W.OpenRow := PySem.W.OpenLaw.row OL
def top (i : Nat) : Stmt := R.prog.main.body.getD i (.Pass ⟨0, 0, 0, 0⟩)
def d_is_whole : De := ⟨⟨("is_whole", none), "is_whole", "is_whole", defArgs (top 33), defBody (top 33), defScope (top 33), [], []⟩, ["thing"], ["thing"]⟩
def d_is_count : De := ⟨⟨("is_count", none), "is_count", "is_count", defArgs (top 34), defBody (top 34), defScope (top 34), [], []⟩, ["thing"], ["thing"]⟩
def d_is_name : De := ⟨⟨("is_name", none), "is_name", "is_name", defArgs (top 35), defBody (top 35), defScope (top 35), [], []⟩, ["thing"], ["thing", "sign"]⟩
def d_seal_of : De := ⟨⟨("seal_of", none), "seal_of", "seal_of", defArgs (top 36), defBody (top 36), defScope (top 36), [], []⟩, ["secret"], ["secret"]⟩
def d_law_bag : De := ⟨⟨("_law_bag", none), "_law_bag", "_law_bag", defArgs (top 38), defBody (top 38), defScope (top 38), [], []⟩, ["_law_script"], ["_law_script", "_law_great", "_law_lesser", "_law_stir", "_law_cell"]⟩
def d_law_draw : De := ⟨⟨("_law_draw", none), "_law_draw", "_law_draw", defArgs (top 39), defBody (top 39), defScope (top 39), [], []⟩, ["_law_bag_here", "_law_many"], ["_law_bag_here", "_law_many", "_law_cell", "_law_found"]⟩
def d_law_count : De := ⟨⟨("_law_count", none), "_law_count", "_law_count", defArgs (top 40), defBody (top 40), defScope (top 40), [], []⟩, ["_law_bag_here"], ["_law_bag_here", "_law_choice"]⟩
def d_law_name : De := ⟨⟨("_law_name", none), "_law_name", "_law_name", defArgs (top 41), defBody (top 41), defScope (top 41), [], []⟩, ["_law_bag_here"], ["_law_bag_here", "_law_few", "_law_some", "_law_size", "_law_k"]⟩
def d_law_whole : De := ⟨⟨("_law_whole", none), "_law_whole", "_law_whole", defArgs (top 42), defBody (top 42), defScope (top 42), [], []⟩, ["_law_thing", "_law_least"], ["_law_thing", "_law_least"]⟩
def d_law_is_name : De := ⟨⟨("_law_is_name", none), "_law_is_name", "_law_is_name", defArgs (top 43), defBody (top 43), defScope (top 43), [], []⟩, ["_law_thing"], ["_law_thing", "_law_sign"]⟩
def d_law_bent : De := ⟨⟨("_law_bent", none), "_law_bent", "_law_bent", defArgs (top 44), defBody (top 44), defScope (top 44), [], []⟩, ["_law_bag_here", "_law_name_here"], ["_law_bag_here", "_law_name_here", "_law_some", "_law_sign", "_law_at", "_law_odd", "_law_bent_here"]⟩
def d_law_refused : De := ⟨⟨("_law_refused", none), "_law_refused", "_law_refused", defArgs (top 45), defBody (top 45), defScope (top 45), [], []⟩, ["_law_thing"], ["_law_thing", "_law_kinds", "e", "_law_others"]⟩
def d_law : De := ⟨⟨("law", none), "law", "law", defArgs (top 46), defBody (top 46), defScope (top 46), [], []⟩, ["_law_script"], ["_law_script", "_law_bag_here", "_law_turn", "_law_secrets", "_law_k", "_law_seals", "_law_one", "_law_bad", "_law_name_here", "_law_thing", "_law_near", "_law_other", "_law_found", "_law_secret", "_law_seal"]⟩
def ld : LD where
  es := [d_is_whole, d_is_count, d_is_name, d_seal_of, d_law_bag, d_law_draw, d_law_count, d_law_name, d_law_whole, d_law_is_name, d_law_bent, d_law_refused, d_law]
  con := [("LETTERS", (.str "abcdefghijklmnopqrstuvwxyz")), ("LONGEST", (.int 8)), ("FIRST_SEAL", (.int 17)), ("STRETCH", (.int 3))]
  free := ["ValueError", "all", "bool", "int", "isinstance", "len", "min", "range", "str"]
  glo := ["CoinError", "NoName", "NoSecret", "NoNumber", "NoCoins", "NoState", "NoStep", "NoPaper", "NoHand", "NoLane", "NotSigned", "Settled", "Old", "NotYours", "Waiting", "NoLetter", "NoNet", "NoFees", "NoWay", "NoHops", "Twice", "Begun", "NoBill", "NoDeed", "NoText", "NoRow", "Stuck"]
  exc := ["NoSecret"]
  sub := [("NoSecret", [("CoinError", true)])]
  isa := [("NoSecret", [("Begun", false), ("NoBill", false), ("NoCoins", false), ("NoDeed", false), ("NoFees", false), ("NoHand", false), ("NoHops", false), ("NoLane", false), ("NoLetter", false), ("NoName", false), ("NoNet", false), ("NoNumber", false), ("NoPaper", false), ("NoRow", false), ("NoSecret", true), ("NoState", false), ("NoStep", false), ("NoText", false), ("NoWay", false), ("NotSigned", false), ("NotYours", false), ("Old", false), ("Settled", false), ("Stuck", false), ("Twice", false), ("Waiting", false)], [("ValueError", true)])]
  heaps := [(79, 17), (84, 11), (139, 19)]
  fuel := 70
abbrev tb (call : FKey → List U → MH → Out U) : Tab := ld.sta.tab call
/-! ### each def stands and binds as it should -/
theorem ok_is_whole : d_is_whole.Ok := ⟨⟨rfl, rfl, rfl, by decide +kernel, rfl, by decide +kernel, by decide +kernel⟩, fun _ _ _ _ _ _ _ us hl => match us, hl with | [_], _ => rfl⟩
theorem ok_is_count : d_is_count.Ok := ⟨⟨rfl, rfl, rfl, by decide +kernel, rfl, by decide +kernel, by decide +kernel⟩, fun _ _ _ _ _ _ _ us hl => match us, hl with | [_], _ => rfl⟩
theorem ok_is_name : d_is_name.Ok := ⟨⟨rfl, rfl, rfl, by decide +kernel, rfl, by decide +kernel, by decide +kernel⟩, fun _ _ _ _ _ _ _ us hl => match us, hl with | [_], _ => rfl⟩
theorem ok_seal_of : d_seal_of.Ok := ⟨⟨rfl, rfl, rfl, by decide +kernel, rfl, by decide +kernel, by decide +kernel⟩, fun _ _ _ _ _ _ _ us hl => match us, hl with | [_], _ => rfl⟩
theorem ok_law_bag : d_law_bag.Ok := ⟨⟨rfl, rfl, rfl, by decide +kernel, rfl, by decide +kernel, by decide +kernel⟩, fun _ _ _ _ _ _ _ us hl => match us, hl with | [_], _ => rfl⟩
theorem ok_law_draw : d_law_draw.Ok := ⟨⟨rfl, rfl, rfl, by decide +kernel, rfl, by decide +kernel, by decide +kernel⟩, fun _ _ _ _ _ _ _ us hl => match us, hl with | [_, _], _ => rfl⟩
theorem ok_law_count : d_law_count.Ok := ⟨⟨rfl, rfl, rfl, by decide +kernel, rfl, by decide +kernel, by decide +kernel⟩, fun _ _ _ _ _ _ _ us hl => match us, hl with | [_], _ => rfl⟩
theorem ok_law_name : d_law_name.Ok := ⟨⟨rfl, rfl, rfl, by decide +kernel, rfl, by decide +kernel, by decide +kernel⟩, fun _ _ _ _ _ _ _ us hl => match us, hl with | [_], _ => rfl⟩
theorem ok_law_whole : d_law_whole.Ok := ⟨⟨rfl, rfl, rfl, by decide +kernel, rfl, by decide +kernel, by decide +kernel⟩, fun _ _ _ _ _ _ _ us hl => match us, hl with | [_, _], _ => rfl⟩
theorem ok_law_is_name : d_law_is_name.Ok := ⟨⟨rfl, rfl, rfl, by decide +kernel, rfl, by decide +kernel, by decide +kernel⟩, fun _ _ _ _ _ _ _ us hl => match us, hl with | [_], _ => rfl⟩
theorem ok_law_bent : d_law_bent.Ok := ⟨⟨rfl, rfl, rfl, by decide +kernel, rfl, by decide +kernel, by decide +kernel⟩, fun _ _ _ _ _ _ _ us hl => match us, hl with | [_, _], _ => rfl⟩
theorem ok_law_refused : d_law_refused.Ok := ⟨⟨rfl, rfl, rfl, by decide +kernel, rfl, by decide +kernel, by decide +kernel⟩, fun _ _ _ _ _ _ _ us hl => match us, hl with | [_], _ => rfl⟩
theorem ok_law : d_law.Ok := ⟨⟨rfl, rfl, rfl, by decide +kernel, rfl, by decide +kernel, by decide +kernel⟩, fun _ _ _ _ _ _ _ us hl => match us, hl with | [_], _ => rfl⟩
theorem ok_all : ∀ e ∈ ld.es, e.Ok := by
  intro e he
  have h : e ∈ [d_is_whole, d_is_count, d_is_name, d_seal_of, d_law_bag, d_law_draw, d_law_count, d_law_name, d_law_whole, d_law_is_name, d_law_bent, d_law_refused, d_law] := he
  simp only [List.mem_cons, List.not_mem_nil, or_false] at h
  rcases h with rfl | rfl | rfl | rfl | rfl | rfl | rfl | rfl | rfl | rfl | rfl | rfl | rfl
  · exact ok_is_whole
  · exact ok_is_count
  · exact ok_is_name
  · exact ok_seal_of
  · exact ok_law_bag
  · exact ok_law_draw
  · exact ok_law_count
  · exact ok_law_name
  · exact ok_law_whole
  · exact ok_law_is_name
  · exact ok_law_bent
  · exact ok_law_refused
  · exact ok_law
/-! ### what each def does -/
def c_is_whole (call : FKey → List U → MH → Out U) : S1 := (sSeq (sRet (cAndV (cFn (biIsa (tb call)) (cCons (cVar 0) (cCons (cK (.ty "int")) cNil))) (cNotV (cFn (biIsa (tb call)) (cCons (cVar 0) (cCons (cK (.ty "bool")) cNil)))))) sNx)
theorem e_is_whole (call : FKey → List U → MH → Out U) : bodyU (tb call) d_is_whole = c_is_whole call := by kernel_rfl
def c_is_count (call : FKey → List U → MH → Out U) : S1 := (sSeq (sRet (cAndV (cCallK 1 0 (fun as _ m => call ("is_whole", none) as m) (cCons (cVar 0) cNil) cNil) (cBin (cmpI geI) (cVar 0) (cK (.int 0))))) sNx)
theorem e_is_count (call : FKey → List U → MH → Out U) : bodyU (tb call) d_is_count = c_is_count call := by kernel_rfl
def c_is_name (call : FKey → List U → MH → Out U) : S1 := (sSeq (sIf (cOr (cNot (cTruth (cFn (biIsa (tb call)) (cCons (cVar 0) (cCons (cK (.ty "str")) cNil))))) (cOr (cIsBl (cBin eqU (cVar 0) (cK (.str "")))) (cIsBl (cBin (cmpI gtI) (cFn biLen (cCons (cVar 0) cNil)) (cK (.int 8)))))) (sSeq (sRet (cK (.bl false))) sNx) sNx) (sSeq (sRet (cFn biAll (cCons (cLc false (cIt (cVar 0)) (gName 1) cYes (cBin inU (cVar 1) (cK (.str "abcdefghijklmnopqrstuvwxyz"))) [1]) cNil))) sNx))
theorem e_is_name (call : FKey → List U → MH → Out U) : bodyU (tb call) d_is_name = c_is_name call := by kernel_rfl
def c_seal_of (call : FKey → List U → MH → Out U) : S1 := (sSeq (sIf (cNot (cTruth (cCallK 1 0 (fun as _ m => call ("is_count", none) as m) (cCons (cVar 0) cNil) cNil))) (sSeq (sRaise "NoSecret") sNx) sNx) (sSeq (sRet (cBin addU (cBin mulU (cK (.int 3)) (cVar 0)) (cK (.int 17)))) sNx))
theorem e_seal_of (call : FKey → List U → MH → Out U) : bodyU (tb call) d_seal_of = c_seal_of call := by kernel_rfl
def c_law_bag (call : FKey → List U → MH → Out U) : S1 := (sSeq (sAsg (cLc true (cIt (cSlice (cVar 0) none (some (cK (.int 63))))) (gName 4) (cIsBl (cBin (cmpI geI) (cVar 4) (cBin powU (cK (.int 10)) (cK (.int 18))))) (cBin subU (cVar 4) (cBin powU (cK (.int 10)) (cK (.int 18)))) [4]) (gName 1)) (sSeq (sAsg (cLc false (cIt (cSlice (cVar 0) none (some (cK (.int 63))))) (gName 4) (cIsBl (cBin (cmpI ltI) (cVar 4) (cBin powU (cK (.int 10)) (cK (.int 18))))) (cBin modU (cVar 4) (cBin powU (cK (.int 10)) (cK (.int 18)))) [4]) (gName 2)) (sSeq (sAsg (cK (.int 5)) (gName 3)) (sSeq (sFor (cIt (cVar 2)) (gName 4) (sSeq (sAsg (cBin modU (cBin powU (cBin addU (cBin addU (cVar 3) (cVar 4)) (cK (.int 1))) (cK (.int 7))) (cK (.int 618970019642690137449562111))) (gName 3)) sNx)) (sSeq (sRet (cFn mkLst (cCons (cVar 1) (cCons (cBin addU (cVar 2) (cFn mkFl (cCons (cK (.int 0)) cNil))) (cCons (cK (.int 0)) (cCons (cVar 3) cNil)))))) sNx)))))
theorem e_law_bag (call : FKey → List U → MH → Out U) : bodyU (tb call) d_law_bag = c_law_bag call := by kernel_rfl
def c_law_draw (call : FKey → List U → MH → Out U) : S1 := (sSeq (sWhile (cAnd (cIsBl (cBin neU (cBin idxU (cVar 0) (cK (.int 0))) (cFn mkFl cNil))) (cIsBl (cBin eqU (cBin idxU (cBin idxU (cVar 0) (cK (.int 0))) (cK (.int 0))) (cK (.int 0))))) (sSeq (sDrop (cMeth (tb call) "pop" 1 [] (cBin idxU (cVar 0) (cK (.int 0))) (cCons (cK (.int 0)) cNil) cNil)) sNx) 70) (sSeq (sIf (cIsBl (cBin neU (cBin idxU (cVar 0) (cK (.int 0))) (cFn mkFl cNil))) (sSeq (sAsg (cBin modU (cBin idxU (cBin idxU (cVar 0) (cK (.int 0))) (cK (.int 0))) (cVar 1)) (gName 3)) (sSeq (sAsg (cBin fdivU (cBin idxU (cBin idxU (cVar 0) (cK (.int 0))) (cK (.int 0))) (cVar 1)) (gSubU (cBin idxU (cVar 0) (cK (.int 0))) (cK (.int 0)))) (sSeq (sRet (cVar 3)) sNx))) sNx) (sSeq (sAsg (cBin addU (cBin idxU (cVar 0) (cK (.int 2))) (cK (.int 1))) (gSubU (cVar 0) (cK (.int 2)))) (sSeq (sAsg (cBin idxU (cBin idxU (cVar 0) (cK (.int 1))) (cBin modU (cBin idxU (cVar 0) (cK (.int 2))) (cFn biLen (cCons (cBin idxU (cVar 0) (cK (.int 1))) cNil)))) (gName 2)) (sSeq (sAsg (cBin modU (cBin powU (cBin addU (cBin idxU (cVar 0) (cK (.int 3))) (cBin mulU (cBin addU (cVar 2) (cBin mulU (cK (.int 3)) (cBin idxU (cVar 0) (cK (.int 2))))) (cBin addU (cBin mulU (cK (.int 2)) (cBin idxU (cVar 0) (cK (.int 2)))) (cK (.int 1))))) (cK (.int 7))) (cK (.int 618970019642690137449562111))) (gSubU (cVar 0) (cK (.int 3)))) (sSeq (sRet (cBin modU (cBin fdivU (cBin idxU (cVar 0) (cK (.int 3))) (cK (.int 65536))) (cVar 1))) sNx))))))
theorem e_law_draw (call : FKey → List U → MH → Out U) : bodyU (tb call) d_law_draw = c_law_draw call := by kernel_rfl
def c_law_count (call : FKey → List U → MH → Out U) : S1 := (sSeq (sAsg (cCallK 2 0 (fun as _ m => call ("_law_draw", none) as m) (cCons (cVar 0) (cCons (cK (.int 5)) cNil)) cNil) (gName 1)) (sSeq (sIf (cIsBl (cBin (cmpI ltI) (cVar 1) (cK (.int 2)))) (sSeq (sRet (cCallK 2 0 (fun as _ m => call ("_law_draw", none) as m) (cCons (cVar 0) (cCons (cBin idxU (cFn mkFl (cCons (cK (.int 7)) (cCons (cK (.int 2000)) cNil))) (cVar 1)) cNil)) cNil)) sNx) sNx) (sSeq (sIf (cIsBl (cBin eqU (cVar 1) (cK (.int 2)))) (sSeq (sRet (cBin subU (cBin subU (cBin powU (cK (.int 10)) (cK (.int 15))) (cK (.int 1))) (cCallK 2 0 (fun as _ m => call ("_law_draw", none) as m) (cCons (cVar 0) (cCons (cK (.int 3)) cNil)) cNil))) sNx) sNx) (sSeq (sRet (cCallK 2 0 (fun as _ m => call ("_law_draw", none) as m) (cCons (cVar 0) (cCons (cBin idxU (cFn mkFl (cCons (cK (.int 40)) (cCons (cBin powU (cK (.int 10)) (cK (.int 15))) cNil))) (cBin subU (cVar 1) (cK (.int 3)))) cNil)) cNil)) sNx))))
theorem e_law_count (call : FKey → List U → MH → Out U) : bodyU (tb call) d_law_count = c_law_count call := by kernel_rfl
def c_law_name (call : FKey → List U → MH → Out U) : S1 := (sSeq (sAsg (cBin (cmpI gtI) (cCallK 2 0 (fun as _ m => call ("_law_draw", none) as m) (cCons (cVar 0) (cCons (cK (.int 3)) cNil)) cNil) (cK (.int 0))) (gName 1)) (sSeq (sAsg (cK (.str "abcdefghijklmnopqrstuvwxyz")) (gName 2)) (sSeq (sAsg (cBin addU (cK (.int 1)) (cCallK 2 0 (fun as _ m => call ("_law_draw", none) as m) (cCons (cVar 0) (cCons (cIf (cTruth (cVar 1)) (cK (.int 4)) (cK (.int 8))) cNil)) cNil)) (gName 3)) (sSeq (sRet (cMeth (tb call) "join" 1 [] (cK (.str "")) (cCons (cLc false (cRng1 (cCons (cVar 3) cNil)) (gName 4) cYes (cBin idxU (cVar 2) (cIf (cTruth (cVar 1)) (cBin mulU (cCallK 2 0 (fun as _ m => call ("_law_draw", none) as m) (cCons (cVar 0) (cCons (cK (.int 2)) cNil)) cNil) (cK (.int 25))) (cCallK 2 0 (fun as _ m => call ("_law_draw", none) as m) (cCons (cVar 0) (cCons (cK (.int 26)) cNil)) cNil))) [4]) cNil) cNil)) sNx))))
theorem e_law_name (call : FKey → List U → MH → Out U) : bodyU (tb call) d_law_name = c_law_name call := by kernel_rfl
def c_law_whole (call : FKey → List U → MH → Out U) : S1 := (sSeq (sRet (cAndV (cFn (biIsa (tb call)) (cCons (cVar 0) (cCons (cK (.ty "int")) cNil))) (cAndV (cNotV (cFn (biIsa (tb call)) (cCons (cVar 0) (cCons (cK (.ty "bool")) cNil)))) (cBin (cmpI geI) (cVar 0) (cVar 1))))) sNx)
theorem e_law_whole (call : FKey → List U → MH → Out U) : bodyU (tb call) d_law_whole = c_law_whole call := by kernel_rfl
def c_law_is_name (call : FKey → List U → MH → Out U) : S1 := (sSeq (sIf (cOr (cNot (cTruth (cFn (biIsa (tb call)) (cCons (cVar 0) (cCons (cK (.ty "str")) cNil))))) (cNot (cIsBl (cChain (cmpI leI) (cmpI leI) (cK (.int 1)) (cFn biLen (cCons (cVar 0) cNil)) (cK (.int 8)))))) (sSeq (sRet (cK (.bl false))) sNx) sNx) (sSeq (sRet (cBin eqU (cLc false (cIt (cVar 0)) (gName 1) (cIsBl (cBin ninU (cVar 1) (cK (.str "abcdefghijklmnopqrstuvwxyz")))) (cVar 1) [1]) (cFn mkFl cNil))) sNx))
theorem e_law_is_name (call : FKey → List U → MH → Out U) : bodyU (tb call) d_law_is_name = c_law_is_name call := by kernel_rfl
def c_law_bent (call : FKey → List U → MH → Out U) : S1 := (sSeq (sAsg (cK (.str " !\"#$&'()*+,-./0123456789:;<=>?@ABCDEFGHIJKLMNOPQRSTUVWXYZ[\\]^_`{|}~\n\t")) (gName 2)) (sSeq (sAsg (cBin idxU (cVar 2) (cCallK 2 0 (fun as _ m => call ("_law_draw", none) as m) (cCons (cVar 0) (cCons (cFn biLen (cCons (cVar 2) cNil)) cNil)) cNil)) (gName 3)) (sSeq (sAsg (cCallK 2 0 (fun as _ m => call ("_law_draw", none) as m) (cCons (cVar 0) (cCons (cBin addU (cFn biLen (cCons (cVar 1) cNil)) (cK (.int 1))) cNil)) cNil) (gName 4)) (sSeq (sAsg (cBin idxU (cFn mkFl (cCons (cK .non) (cCons (cK (.bl true)) (cCons (cK (.int 7)) (cCons (cK (.str "")) (cCons (cFn mkTup (cCons (cVar 1) cNil)) (cCons (cFn mkFl (cCons (cVar 1) cNil)) (cCons cDic (cCons (cMeth (tb call) "upper" 0 [] (cVar 1) cNil cNil) cNil))))))))) (cCallK 2 0 (fun as _ m => call ("_law_draw", none) as m) (cCons (cVar 0) (cCons (cK (.int 8)) cNil)) cNil)) (gName 5)) (sSeq (sAsg (cFn mkFl (cCons (cBin addU (cBin addU (cSlice (cVar 1) none (some (cVar 4))) (cVar 3)) (cSlice (cVar 1) (some (cVar 4)) none)) (cCons (cBin addU (cBin addU (cSlice (cVar 1) none (some (cVar 4))) (cVar 3)) (cSlice (cVar 1) (some (cBin addU (cVar 4) (cK (.int 1)))) none)) (cCons (cSlice (cBin mulU (cVar 1) (cK (.int 9))) none (some (cK (.int 9)))) (cCons (cSlice (cBin mulU (cVar 1) (cK (.int 8))) none (some (cK (.int 8)))) (cCons (cVar 5) cNil)))))) (gName 6)) (sSeq (sRet (cBin idxU (cBin addU (cVar 6) (cFn mkFl (cCons (cSlice (cBin mulU (cVar 1) (cK (.int 1900))) none (some (cK (.int 1900)))) cNil))) (cCallK 2 0 (fun as _ m => call ("_law_draw", none) as m) (cCons (cVar 0) (cCons (cK (.int 6)) cNil)) cNil))) sNx))))))
theorem e_law_bent (call : FKey → List U → MH → Out U) : bodyU (tb call) d_law_bent = c_law_bent call := by kernel_rfl
def c_law_refused (call : FKey → List U → MH → Out U) : S1 := (sSeq (sAsg (cFn mkFl cNil) (gName 1)) (sSeq (sTry (tb call) (sSeq (sDrop (cCallK 1 0 (fun as _ m => call ("seal_of", none) as m) (cCons (cVar 0) cNil) cNil)) sNx) [⟨"CoinError", (some 2), (sSeq (sAsg (cFn (biIsa (tb call)) (cCons (cVar 2) (cCons (cFn mkTup (cCons (cK (.glo "Begun")) (cCons (cK (.glo "NoBill")) (cCons (cK (.glo "NoCoins")) (cCons (cK (.glo "NoDeed")) (cCons (cK (.glo "NoFees")) (cCons (cK (.glo "NoHand")) (cCons (cK (.glo "NoHops")) (cCons (cK (.glo "NoLane")) (cCons (cK (.glo "NoLetter")) (cCons (cK (.glo "NoName")) cNil))))))))))) cNil))) (gName 3)) (sSeq (sAsg (cOrV (cVar 3) (cFn (biIsa (tb call)) (cCons (cVar 2) (cCons (cFn mkTup (cCons (cK (.glo "NoNet")) (cCons (cK (.glo "NoNumber")) (cCons (cK (.glo "NoPaper")) (cCons (cK (.glo "NoRow")) (cCons (cK (.glo "NoState")) (cCons (cK (.glo "NoStep")) (cCons (cK (.glo "NotSigned")) (cCons (cK (.glo "NotYours")) cNil))))))))) cNil)))) (gName 3)) (sSeq (sAsg (cOrV (cVar 3) (cFn (biIsa (tb call)) (cCons (cVar 2) (cCons (cFn mkTup (cCons (cK (.glo "NoText")) (cCons (cK (.glo "NoWay")) (cCons (cK (.glo "Old")) (cCons (cK (.glo "Settled")) (cCons (cK (.glo "Stuck")) (cCons (cK (.glo "Twice")) (cCons (cK (.glo "Waiting")) cNil)))))))) cNil)))) (gName 3)) (sSeq (sAsg (cFn mkFl (cCons (cFn (biIsa (tb call)) (cCons (cVar 2) (cCons (cK (.glo "NoSecret")) cNil))) (cCons (cFn (biIsa (tb call)) (cCons (cVar 2) (cCons (cK (.ty "ValueError")) cNil))) (cCons (cNotV (cVar 3)) cNil)))) (gName 1)) sNx))))⟩]) (sSeq (sRet (cBin eqU (cVar 1) (cFn mkFl (cCons (cK (.bl true)) (cCons (cK (.bl true)) (cCons (cK (.bl true)) cNil)))))) sNx)))
theorem e_law_refused (call : FKey → List U → MH → Out U) : bodyU (tb call) d_law_refused = c_law_refused call := by kernel_rfl
def c_law (call : FKey → List U → MH → Out U) : S1 := (sSeq (sAsg (cCallK 1 0 (fun as _ m => call ("_law_bag", none) as m) (cCons (cVar 0) cNil) cNil) (gName 1)) (sSeq (sFor (cRng1 (cCons (cK (.int 10)) cNil)) (gName 2) (sSeq (sAsg (cCallK 1 0 (fun as _ m => call ("_law_name", none) as m) (cCons (cVar 1) cNil) cNil) (gName 8)) (sSeq (sFor (cIt (cFn mkFl (cCons (cVar 8) (cCons (cCallK 2 0 (fun as _ m => call ("_law_bent", none) as m) (cCons (cVar 1) (cCons (cVar 8) cNil)) cNil) (cCons (cVar 8) cNil))))) (gName 9) (sSeq (sAsg (cCallK 1 0 (fun as _ m => call ("is_name", none) as m) (cCons (cVar 9) cNil) cNil) (gName 12)) (sSeq (sIf (cOr (cNot (cTruth (cFn (biIsa (tb call)) (cCons (cVar 12) (cCons (cK (.ty "bool")) cNil))))) (cIsBl (cBin neU (cVar 12) (cCallK 1 0 (fun as _ m => call ("_law_is_name", none) as m) (cCons (cVar 9) cNil) cNil)))) (sSeq (sRet (cK (.bl false))) sNx) sNx) sNx))) sNx))) (sSeq (sAsg (cFn mkLst cNil) (gName 3)) (sSeq (sFor (cRng1 (cCons (cBin addU (cK (.int 2)) (cCallK 2 0 (fun as _ m => call ("_law_draw", none) as m) (cCons (cVar 1) (cCons (cK (.int 12)) cNil)) cNil)) cNil)) (gName 4) (sSeq (sAsg (cIf (cAnd (cIsBl (cBin neU (cVar 3) (cFn mkFl cNil))) (cIsBl (cBin eqU (cCallK 2 0 (fun as _ m => call ("_law_draw", none) as m) (cCons (cVar 1) (cCons (cK (.int 2)) cNil)) cNil) (cK (.int 0))))) (cBin addU (cBin idxU (cVar 3) (cUn negU (cK (.int 1)))) (cK (.int 1))) (cCallK 1 0 (fun as _ m => call ("_law_count", none) as m) (cCons (cVar 1) cNil) cNil)) (gName 10)) (sSeq (sDrop (cMeth (tb call) "append" 1 [] (cVar 3) (cCons (cFn biMin (cCons (cVar 10) (cCons (cBin subU (cBin powU (cK (.int 10)) (cK (.int 15))) (cK (.int 1))) cNil))) cNil) cNil)) sNx))) (sSeq (sAsg (cLc false (cIt (cVar 3)) (gName 13) cYes (cCallK 1 0 (fun as _ m => call ("seal_of", none) as m) (cCons (cVar 13) cNil) cNil) [13]) (gName 5)) (sSeq (sIf (cIsBl (cBin neU (cLc false (cIt (cVar 5)) (gName 14) (cNot (cTruth (cCallK 2 0 (fun as _ m => call ("_law_whole", none) as m) (cCons (cVar 14) (cCons (cK (.int 0)) cNil)) cNil))) (cVar 14) [14]) (cFn mkFl cNil))) (sSeq (sRet (cK (.bl false))) sNx) sNx) (sSeq (sFor (cRng1 (cCons (cFn biLen (cCons (cVar 3) cNil)) cNil)) (gName 6) (sSeq (sIf (cIsBl (cBin (cmpI gtI) (cFn biLen (cCons (cFn biStr (cCons (cBin idxU (cVar 5) (cVar 6)) cNil)) cNil)) (cBin addU (cFn biLen (cCons (cFn biStr (cCons (cBin idxU (cVar 3) (cVar 6)) cNil)) cNil)) (cK (.int 2))))) (sSeq (sRet (cK (.bl false))) sNx) sNx) (sSeq (sFor (cRng1 (cCons (cVar 6) cNil)) (gName 11) (sSeq (sIf (cIsBl (cBin neU (cBin eqU (cBin idxU (cVar 5) (cVar 6)) (cBin idxU (cVar 5) (cVar 11))) (cBin eqU (cBin idxU (cVar 3) (cVar 6)) (cBin idxU (cVar 3) (cVar 11))))) (sSeq (sRet (cK (.bl false))) sNx) sNx) sNx)) sNx))) (sSeq (sAsg (cFn mkFl (cCons (cBin subU (cUn negU (cK (.int 1))) (cCallK 1 0 (fun as _ m => call ("_law_count", none) as m) (cCons (cVar 1) cNil) cNil)) (cCons (cK (.bl true)) (cCons (cK (.bl false)) (cCons (cK .non) (cCons (cK (.str "3")) (cCons (cFn mkTup (cCons (cK (.int 3)) cNil)) (cCons (cFn mkFl (cCons (cK (.int 3)) cNil)) (cCons cDic cNil))))))))) (gName 7)) (sSeq (sFor (cRng1 (cCons (cK (.int 3)) cNil)) (gName 2) (sSeq (sIf (cNot (cTruth (cCallK 1 0 (fun as _ m => call ("_law_refused", none) as m) (cCons (cBin idxU (cVar 7) (cCallK 2 0 (fun as _ m => call ("_law_draw", none) as m) (cCons (cVar 1) (cCons (cK (.int 8)) cNil)) cNil)) cNil) cNil))) (sSeq (sRet (cK (.bl false))) sNx) sNx) sNx)) (sSeq (sRet (cBin eqU (cLc false (cIt (cUn revU (cVar 3))) (gName 13) cYes (cCallK 1 0 (fun as _ m => call ("seal_of", none) as m) (cCons (cVar 13) cNil) cNil) [13]) (cUn revU (cVar 5)))) sNx))))))))))
theorem e_law (call : FKey → List U → MH → Out U) : bodyU (tb call) d_law = c_law call := by kernel_rfl
end K01
/-! k01: what each def tells. -/
namespace K01
open PySem PySem.Spec PyProof.Rows L2 Mi
set_option linter.unusedVariables false
set_option linter.unusedSimpArgs false
set_option maxRecDepth 10000
def AZ : Str := "abcdefghijklmnopqrstuvwxyz"
def letB (k : Nat) : Bool := strIn ⟨#[k]⟩ AZ
def nameB (z : Str) : Bool := decide (1 ≤ (z.length : Int)) && decide ((z.length : Int) ≤ 8) && z.cps.toList.all letB
section
variable {call : FKey → List U → MH → Out U} {m : MH} {T : Tab} {Q : U → MH → Prop}
theorem ok_isa {u : U} {a n : String} (h : tyU u m = some a) (hn : tys.contains n = true) : okP (biIsa T [u, .ty n] m) Q ↔ Q (.bl (isT a n)) m := by
  have e : isa1 T u (.ty n) m = some (isT a n) := by
    have e1 : isa1 T u (.ty n) m = (tyU u m).bind fun a => if tys.contains n = true then some (isT a n) else none := by
      cases u with
      | exn x => cases h
      | _ => rfl
    rw [e1, h, Option.bind_some, if_pos hn]
  have e2 : biIsa T [u, .ty n] m = some (.bl (isT a n), m) := by
    show (isa1 T u (.ty n) m).map _ = _
    rw [e]
    rfl
  rw [e2]
  exact Iff.rfl
theorem signs_get {z : Str} {i : Nat} {u : U} (h : (signsU z)[i]? = some u) : ∃ k, u = .str ⟨#[k]⟩ ∧ z.cps.toList[i]? = some k := by
  unfold signsU at h
  rw [List.getElem?_map] at h
  cases e : z.cps.toList[i]? with
  | none =>
    rw [e] at h
    cases h
  | some k =>
    rw [e] at h
    cases h
    exact ⟨k, rfl, rfl⟩
theorem signs_len (z : Str) : (signsU z).length = z.length := by
  unfold signsU
  rw [List.length_map]
  rfl
theorem take_succ' {α : Type} {l : List α} {i : Nat} {a : α} (h : l[i]? = some a) : l.take (i + 1) = l.take i ++ [a] := by
  rw [List.take_add_one, h]
  rfl
theorem isname_str {z : Str} (hl : lineOk z.length = true) : okS (c_is_name call [some (.str z), none] m) (fun _ _ => False) fun v m' => v = .bl (nameB z) ∧ m' = m := by
  unfold c_is_name
  have t1 : tyU (.str z) m = some "str" := rfl
  have t2 : tys.contains "str" = true := by decide
  simp only [ok_sSeq, ok_sIf, ok_cOr, ok_cNot, ok_cTruth, ok_cFn, ok_cCons, ok_cVar0, ok_cK, ok_cNil, ok_isa t1 t2, okT_bl, ok_cIsBl, ok_cBin, ok_eqS, ok_blOf, ok_lenS hl, ok_cmpI, ok_sRet, ok_sNx, gtI]
  have e0 : (!isT "str" "str") = false := by decide
  rw [e0]
  refine ⟨fun h => (nomatch h), fun _ => ⟨fun h => ?_, fun h => ⟨fun h2 => ?_, fun h2 => ?_⟩⟩⟩
  · refine ⟨fun _ => ⟨?_, trivial⟩, fun h3 => (nomatch h3)⟩
    have e : z = "" := of_decide_eq_true h
    rw [e]
    rfl
  · refine ⟨?_, trivial⟩
    have h3 : (8 : Int) < z.length := of_decide_eq_true h2
    have e : decide ((z.length : Int) ≤ 8) = false := decide_eq_false (by omega)
    unfold nameB
    rw [e, Bool.and_false, Bool.false_and]
  · have h4 : ¬ ((8 : Int) < z.length) := of_decide_eq_false h2
    have h5 : ¬ z = "" := of_decide_eq_false h
    have h6 : z.length ≠ 0 := fun e => h5 (by
      obtain ⟨a⟩ := z
      have : a = #[] := Array.eq_empty_of_size_eq_zero e
      rw [this]
      rfl)
    have hb : nameB z = z.cps.toList.all letB := by
      unfold nameB
      rw [decide_eq_true (show (1 : Int) ≤ z.length by omega), decide_eq_true (show (z.length : Int) ≤ 8 by omega)]
      rfl
    have hz : lineOk (constIt (signsU z)).len = true := by
      show lineOk (signsU z).length = true
      rw [signs_len]
      exact hl
    simp only [ok_cLc, ok_cIt, ok_cVar0, ok_itOf_str, hz, true_and]
    refine ok_lc (fun i acc m1 => m1 = m ∧ acc = (((z.cps.toList).take i).map letB).map U.bl) ⟨rfl, rfl⟩ ?_ ?_
    · rintro i u acc m1 hu ⟨rfl, rfl⟩
      obtain ⟨k, rfl, hk⟩ := signs_get hu
      simp only [ok_gName, wipeU, List.set_cons_succ, List.set_cons_zero, ok_cYes, ok_cBin, ok_cVarS, ok_cVar0, ok_cK, ok_inS]
      refine ⟨fun _ => ⟨trivial, ?_⟩, fun h => (nomatch h)⟩
      rw [take_succ' hk, List.map_append, List.map_append]
      rfl
    · rintro acc m1 ⟨rfl, rfl⟩
      rw [signs_len]
      have et : (z.cps.toList).take z.length = z.cps.toList := List.take_of_length_le (Nat.le_refl _)
      simp only [flP, et]
      rw [hb]
      refine Mi.ok_all.mpr ⟨?_, rfl⟩
      rw [List.all_map]
      rfl
theorem isname_other {u : U} {a : String} (t1 : tyU u m = some a) (ha : a ≠ "str") : okS (c_is_name call [some u, none] m) (fun _ _ => False) fun v m' => v = .bl false ∧ m' = m := by
  unfold c_is_name
  have t2 : tys.contains "str" = true := by decide
  have e0 : isT a "str" = false := by
    unfold isT
    rw [decide_eq_false ha, Bool.false_or]
    have : decide ("str" = "int") = false := by decide
    rw [this, Bool.and_false]
  simp only [ok_sSeq, ok_sIf, ok_cOr, ok_cNot, ok_cTruth, ok_cFn, ok_cCons, ok_cVar0, ok_cK, ok_cNil, ok_isa t1 t2, okT_bl, e0, ok_sRet]
  exact ⟨fun _ => ⟨fun _ => ⟨trivial, trivial⟩, fun h => (nomatch h)⟩, fun h => (nomatch h)⟩
theorem lname_str {z : Str} (hl : lineOk z.length = true) (hs : Sg lawful z) : okS (c_law_is_name call [some (.str z), none] m) (fun _ _ => False) fun v m' => v = .bl (nameB z) ∧ m' = m := by
  unfold c_law_is_name
  have t1 : tyU (.str z) m = some "str" := rfl
  have t2 : tys.contains "str" = true := by decide
  have e0 : (!isT "str" "str") = false := by decide
  have hz : lineOk (constIt (signsU z)).len = true := by
    show lineOk (signsU z).length = true
    rw [signs_len]
    exact hl
  simp only [ok_sSeq, ok_sIf, ok_cOr, ok_cNot, ok_cTruth, ok_cFn, ok_cCons, ok_cVar0, ok_cK, ok_cNil, ok_isa t1 t2, okT_bl, ok_cIsBl, ok_cChain, ok_lenS hl, ok_cmpI, ok_blOf, ok_sRet, ok_sNx, leI, e0]
  have tail : nameB z = z.cps.toList.all letB → okO (cBin eqU (cLc false (cIt (cVar 0)) (gName 1) (cIsBl (cBin ninU (cVar 1) (cK (.str "abcdefghijklmnopqrstuvwxyz")))) (cVar 1) [1]) (cFn mkFl cNil) [some (.str z), none] m) fun v m' => v = .bl (nameB z) ∧ m' = m := fun hb => by
    simp only [ok_cBin, ok_cLc, ok_cIt, ok_cVar0, ok_itOf_str, hz, true_and]
    refine ok_lc (fun i acc m1 => m1 = m ∧ acc = ((((z.cps.toList).take i).filter fun k => !letB k).map fun k => (⟨#[k]⟩ : Str)).map U.str) ⟨rfl, rfl⟩ ?_ ?_
    · rintro i u acc m1 hu ⟨rfl, rfl⟩
      obtain ⟨k, rfl, hk⟩ := signs_get hu
      simp only [ok_gName, wipeU, List.set_cons_succ, List.set_cons_zero, ok_cIsBl, ok_cBin, ok_cVarS, ok_cVar0, ok_cK, ok_ninS, ok_blOf]
      rw [take_succ' hk, List.filter_append]
      refine ⟨fun h => ⟨trivial, ?_⟩, fun h => ⟨trivial, ?_⟩⟩
      · have : (!letB k) = true := h
        have e9 : [k].filter (fun k => !letB k) = [k] := by
          unfold List.filter
          rw [this]
          rfl
        rw [e9, List.map_append, List.map_append]
        rfl
      · have : ¬ (!letB k) = true := by rw [show (!letB k) = false from h]; exact Bool.false_ne_true
        have e9 : [k].filter (fun k => !letB k) = [] := by
          unfold List.filter
          rw [show (!letB k) = false from h]
          rfl
        rw [e9, List.append_nil]
    · rintro acc m1 ⟨rfl, rfl⟩
      rw [signs_len]
      have et : (z.cps.toList).take z.length = z.cps.toList := List.take_of_length_le (Nat.le_refl _)
      have hl2 : ∀ x ∈ ((z.cps.toList.filter fun k => !letB k).map fun k => (⟨#[k]⟩ : Str)), Sg lawful x := by
        intro x hx
        obtain ⟨k, hk, rfl⟩ := List.mem_map.mp hx
        exact Sg.one (hs k ((List.mem_filter.mp hk).1))
      simp only [flP, et, ok_cFn, ok_cNil, ok_mkFl (us := []) rfl, ok_eqOf (eq_nil_strs hl2)]
      rw [hb]
      refine ⟨congrArg U.bl ?_, trivial⟩
      rw [Bool.eq_iff_iff, List.isEmpty_iff, List.map_eq_nil_iff, List.filter_eq_nil_iff, List.all_eq_true]
      simp
  refine ⟨fun h => (nomatch h), fun _ => ⟨fun h1 => ?_, fun h1 => ?_⟩⟩
  · refine ⟨fun h2 => ?_, fun h2 => ?_⟩
    · have h3 : ¬ ((z.length : Int) ≤ 8) := fun z1 => by rw [decide_eq_true z1] at h2; cases h2
      refine ⟨?_, trivial⟩
      unfold nameB
      rw [decide_eq_false h3, Bool.and_false, Bool.false_and]
    · have h3 : (z.length : Int) ≤ 8 := Decidable.byContradiction fun z1 => by rw [decide_eq_false z1] at h2; cases h2
      refine tail ?_
      unfold nameB
      rw [h1, decide_eq_true h3]
      rfl
  · refine ⟨fun h2 => ⟨?_, trivial⟩, fun h2 => (nomatch h2)⟩
    unfold nameB
    rw [h1, Bool.false_and, Bool.false_and]
theorem lname_other {u : U} {a : String} (t1 : tyU u m = some a) (ha : a ≠ "str") : okS (c_law_is_name call [some u, none] m) (fun _ _ => False) fun v m' => v = .bl false ∧ m' = m := by
  unfold c_law_is_name
  have t2 : tys.contains "str" = true := by decide
  have e0 : isT a "str" = false := by
    unfold isT
    rw [decide_eq_false ha, Bool.false_or]
    have : decide ("str" = "int") = false := by decide
    rw [this, Bool.and_false]
  simp only [ok_sSeq, ok_sIf, ok_cOr, ok_cNot, ok_cTruth, ok_cFn, ok_cCons, ok_cVar0, ok_cK, ok_cNil, ok_isa t1 t2, okT_bl, e0, ok_sRet]
  exact ⟨fun _ => ⟨fun _ => ⟨trivial, trivial⟩, fun h => (nomatch h)⟩, fun h => (nomatch h)⟩
end
end K01
/-! k01: whole numbers, seals, what is refused. -/
namespace K01
open PySem PySem.Spec PyProof.Rows L2 Mi
set_option linter.unusedVariables false
set_option linter.unusedSimpArgs false
set_option maxRecDepth 10000
section
variable {call : FKey → List U → MH → Out U} {m : MH} {T : Tab} {Q : U → MH → Prop}
/-- no whole number, by kind -/
def NoInt (u : U) (m : MH) : Prop := ∃ a, tyU u m = some a ∧ a ≠ "int"
theorem isT_int : isT "int" "int" = true := by decide
theorem isT_ib : isT "int" "bool" = false := by decide
theorem isT_bi : isT "bool" "int" = true := by decide
theorem isT_bb : isT "bool" "bool" = true := by decide
theorem isT_no {a : String} (h : a ≠ "int") (h2 : a ≠ "bool") : isT a "int" = false := by
  unfold isT
  rw [decide_eq_false h, decide_eq_false h2]
  rfl
theorem tI : tys.contains "int" = true := by decide
theorem tB : tys.contains "bool" = true := by decide
theorem whole_int (i : Int) : okS (c_is_whole call [some (.int i)] m) (fun _ _ => False) fun v m' => v = .bl true ∧ m' = m := by
  unfold c_is_whole
  have t1 : tyU (.int i) m = some "int" := rfl
  simp only [ok_sSeq, ok_sRet, ok_cAndV, ok_cFn, ok_cCons, ok_cVar0, ok_cK, ok_cNil, ok_isa t1 tI, ok_isa t1 tB, okT_bl, ok_cNotV, isT_int, isT_ib]
  exact ⟨fun _ => by simp, fun h => (nomatch h)⟩
theorem whole_no {u : U} (h : NoInt u m) : okS (c_is_whole call [some u] m) (fun _ _ => False) fun v m' => v = .bl false ∧ m' = m := by
  obtain ⟨a, t1, ha⟩ := h
  unfold c_is_whole
  by_cases hb : a = "bool"
  · subst hb
    simp only [ok_sSeq, ok_sRet, ok_cAndV, ok_cFn, ok_cCons, ok_cVar0, ok_cK, ok_cNil, ok_isa t1 tI, ok_isa t1 tB, okT_bl, ok_cNotV, isT_bi, isT_bb]
    exact ⟨fun _ => by simp, fun h => (nomatch h)⟩
  · simp only [ok_sSeq, ok_sRet, ok_cAndV, ok_cFn, ok_cCons, ok_cVar0, ok_cK, ok_cNil, ok_isa t1 tI, ok_isa t1 tB, okT_bl, ok_cNotV, isT_no ha hb]
    exact ⟨fun h => (nomatch h), fun _ => by simp⟩
def WholeC (call : FKey → List U → MH → Out U) : Prop := (∀ m i, okO (call ("is_whole", none) [.int i] m) fun v m' => v = .bl true ∧ m' = m) ∧ ∀ m u, NoInt u m → okO (call ("is_whole", none) [u] m) fun v m' => v = .bl false ∧ m' = m
def CountI (call : FKey → List U → MH → Out U) : Prop := (∀ m i, okO (call ("is_count", none) [.int i] m) fun v m' => v = .bl (decide (0 ≤ i)) ∧ m' = m) ∧ ∀ m u, NoInt u m → okO (call ("is_count", none) [u] m) fun v m' => v = .bl false ∧ m' = m
theorem count_int (W : WholeC call) (i : Int) : okS (c_is_count call [some (.int i)] m) (fun _ _ => False) fun v m' => v = .bl (decide (0 ≤ i)) ∧ m' = m := by
  unfold c_is_count
  simp only [ok_sSeq, ok_sRet, ok_cAndV, ok_cCallK, ok_cCons, ok_cVar0, ok_cK, ok_cNil]
  refine ⟨rfl, rfl, okO_mono (W.1 m i) ?_⟩
  rintro v m1 ⟨rfl, rfl⟩
  simp only [okT_bl, ok_cBin, ok_cVar0, ok_cK, ok_cmpI, geI]
  exact ⟨fun _ => by simp, fun h => (nomatch h)⟩
theorem count_no (W : WholeC call) {u : U} (h : NoInt u m) : okS (c_is_count call [some u] m) (fun _ _ => False) fun v m' => v = .bl false ∧ m' = m := by
  unfold c_is_count
  simp only [ok_sSeq, ok_sRet, ok_cAndV, ok_cCallK, ok_cCons, ok_cVar0, ok_cK, ok_cNil]
  refine ⟨rfl, rfl, okO_mono (W.2 m u h) ?_⟩
  rintro v m1 ⟨rfl, rfl⟩
  simp only [okT_bl]
  exact ⟨fun h => (nomatch h), fun _ => by simp⟩
/-- what is no secret -/
def NoSec (u : U) (m : MH) : Prop := NoInt u m ∨ ∃ i : Int, u = .int i ∧ i < 0
theorem seal_int (C : CountI call) {i : Int} (h : 0 ≤ i) : okS (c_seal_of call [some (.int i)] m) (fun _ _ => False) fun v m' => v = .int (3 * i + 17) ∧ m' = m := by
  unfold c_seal_of
  have mo : mulOk 3 i = true := by
    unfold mulOk
    rw [Bool.or_eq_true, Bool.or_eq_true]
    exact .inl (.inl rfl)
  simp only [ok_sSeq, ok_sIf, ok_cNot, ok_cTruth, ok_cCallK, ok_cCons, ok_cVar0, ok_cK, ok_cNil]
  refine ⟨rfl, rfl, okO_mono (C.1 m i) ?_⟩
  rintro v m1 ⟨rfl, rfl⟩
  rw [decide_eq_true h]
  simp only [okT_bl]
  refine ⟨fun h => (nomatch h), fun _ => ?_⟩
  simp only [ok_sNx, ok_sRet, ok_cBin, ok_cK, ok_cVar0, ok_mul mo, ok_add]
  simp
theorem seal_no (C : CountI call) {u : U} (h : NoSec u m) : c_seal_of call [some u] m = .err ⟨"NoSecret", []⟩ [some u] m := by
  have hc : call ("is_count", none) [u] m = .ok (.bl false) m := by
    have key : okO (call ("is_count", none) [u] m) fun v m' => v = .bl false ∧ m' = m := by
      rcases h with h | ⟨i, rfl, hi⟩
      · exact C.2 m u h
      · refine okO_mono (C.1 m i) ?_
        rintro v m1 ⟨rfl, rfl⟩
        exact ⟨by rw [decide_eq_false (by omega)], rfl⟩
    cases e : call ("is_count", none) [u] m with
    | ok v m1 =>
      rw [e] at key
      obtain ⟨rfl, rfl⟩ := key
      rfl
    | err x m1 =>
      rw [e] at key
      exact key.elim
    | bad =>
      rw [e] at key
      exact key.elim
  unfold c_seal_of
  simp only [sSeq, sIf, sE, cNot, cTruth, cCallK, cCons, cVar, cNil, Out.bind, List.getElem?_cons_zero, List.length_cons, List.length_nil, hc, truU, ofO, Option.map_some, Bool.not_false, sRaise, Nat.zero_add, and_self, if_true]
theorem lwhole_int (i j : Int) : okS (c_law_whole call [some (.int i), some (.int j)] m) (fun _ _ => False) fun v m' => v = .bl (decide (j ≤ i)) ∧ m' = m := by
  unfold c_law_whole
  have t1 : tyU (.int i) m = some "int" := rfl
  simp only [ok_sSeq, ok_sRet, ok_cAndV, ok_cFn, ok_cCons, ok_cVar0, ok_cVarS, ok_cK, ok_cNil, ok_isa t1 tI, ok_isa t1 tB, okT_bl, ok_cNotV, isT_int, isT_ib, ok_cBin, ok_cmpI, geI]
  exact ⟨fun _ => ⟨fun _ => by simp, fun h => (nomatch h)⟩, fun h => (nomatch h)⟩
theorem ok_unSlot {oi : Nat} {o : SO} {N : Env1 → MH → Prop} {R : U → MH → Prop} (h : okS o (fun t m => N (t.set oi none) m) R) : okS (unSlot (some oi) o) N R := by
  cases o <;> exact h
theorem ok_isaN {u : U} {c0 : U} {cs : List U} {b : Bool} (h : isaN T u m (c0 :: cs) = some b) : okP (biIsa T [u, .tup (c0 :: cs)] m) Q ↔ Q (.bl b) m := by
  have e : biIsa T [u, .tup (c0 :: cs)] m = some (.bl b, m) := by
    show (isaN T u m (c0 :: cs)).map _ = _
    rw [h]
    rfl
  rw [e]
  exact Iff.rfl
theorem ok_isa1g {u : U} {x : Str} {b : Bool} (h : isa1 T u (.glo x) m = some b) : okP (biIsa T [u, .glo x] m) Q ↔ Q (.bl b) m := by
  have e : biIsa T [u, .glo x] m = some (.bl b, m) := by
    show (isa1 T u (.glo x) m).map _ = _
    rw [h]
    rfl
  rw [e]
  exact Iff.rfl
theorem ok_isa1t {u : U} {x : String} {b : Bool} (h : isa1 T u (.ty x) m = some b) : okP (biIsa T [u, .ty x] m) Q ↔ Q (.bl b) m := by
  have e : biIsa T [u, .ty x] m = some (.bl b, m) := by
    show (isa1 T u (.ty x) m).map _ = _
    rw [h]
    rfl
  rw [e]
  exact Iff.rfl
theorem refused_ok {u : U} (h : call ("seal_of", none) [u] m = .err ⟨"NoSecret", []⟩ m) : okS (c_law_refused call [some u, none, none, none] m) (fun _ _ => False) fun v m' => v = .bl true ∧ m' = m := by
  unfold c_law_refused
  rw [ok_sSeq]
  simp only [ok_sAsg, ok_cFn, ok_cNil, ok_mkFl (us := []) rfl, ok_gName, List.set_cons_succ, List.set_cons_zero]
  rw [ok_sSeq]
  have eb : (sSeq (sDrop (cCallK 1 0 (fun as _ m => call ("seal_of", none) as m) (cCons (cVar 0) cNil) cNil)) sNx) [some u, some (.fl []), none, none] m = .err ⟨"NoSecret", []⟩ [some u, some (.fl []), none, none] m := by
    simp only [sSeq, sDrop, sE, cCallK, cCons, cVar, cNil, Out.bind, List.getElem?_cons_zero, List.length_cons, List.length_nil, h, Nat.zero_add, and_self, if_true]
  unfold sTry
  rw [eb]
  dsimp only
  unfold handle
  dsimp only
  have es : (tb call).sub "NoSecret" "CoinError" = some true := by kernel_rfl
  rw [es]
  dsimp only
  rw [if_pos (show ([] : List (Str × U)).isEmpty = true from rfl)]
  refine ok_unSlot ?_
  have i1 : ∀ m : MH, isaN (tb call) (.exn "NoSecret") m [.glo "Begun", .glo "NoBill", .glo "NoCoins", .glo "NoDeed", .glo "NoFees", .glo "NoHand", .glo "NoHops", .glo "NoLane", .glo "NoLetter", .glo "NoName"] = some false := fun m => by kernel_rfl
  have i2 : ∀ m : MH, isaN (tb call) (.exn "NoSecret") m [.glo "NoNet", .glo "NoNumber", .glo "NoPaper", .glo "NoRow", .glo "NoState", .glo "NoStep", .glo "NotSigned", .glo "NotYours"] = some false := fun m => by kernel_rfl
  have i3 : ∀ m : MH, isaN (tb call) (.exn "NoSecret") m [.glo "NoText", .glo "NoWay", .glo "Old", .glo "Settled", .glo "Stuck", .glo "Twice", .glo "Waiting"] = some false := fun m => by kernel_rfl
  have i4 : ∀ m : MH, isa1 (tb call) (.exn "NoSecret") (.glo "NoSecret") m = some true := fun m => by kernel_rfl
  have i5 : ∀ m : MH, isa1 (tb call) (.exn "NoSecret") (.ty "ValueError") m = some true := fun m => by kernel_rfl
  simp only [ok_sSeq, ok_sAsg, ok_cFn, ok_cCons, ok_cVar0, ok_cVarS, ok_cK, ok_cNil, List.set_cons_succ, List.set_cons_zero, ok_mkTup (us := [.glo "Begun", .glo "NoBill", .glo "NoCoins", .glo "NoDeed", .glo "NoFees", .glo "NoHand", .glo "NoHops", .glo "NoLane", .glo "NoLetter", .glo "NoName"]) rfl,
    ok_mkTup (us := [.glo "NoNet", .glo "NoNumber", .glo "NoPaper", .glo "NoRow", .glo "NoState", .glo "NoStep", .glo "NotSigned", .glo "NotYours"]) rfl, ok_mkTup (us := [.glo "NoText", .glo "NoWay", .glo "Old", .glo "Settled", .glo "Stuck", .glo "Twice", .glo "Waiting"]) rfl,
    ok_isaN (i1 _), ok_isaN (i2 _), ok_isaN (i3 _), ok_isa1g (i4 _), ok_isa1t (i5 _), ok_gName, ok_cOrV, okT_bl, ok_cNotV, ok_sNx, ok_sRet, ok_cBin, ok_mkFl (us := [.bl true, .bl true, .bl true]) rfl, ok_mkFl (us := [.bl true, .bl true, .bl (!false)]) rfl]
  have fin : okP (Mi.eqU (.fl [.bl true, .bl true, .bl !false]) (.fl [.bl true, .bl true, .bl true]) m) fun v m' => v = U.bl true ∧ m' = m := (ok_eqOf (b := true) rfl).mpr ⟨rfl, rfl⟩
  exact ⟨fun h => (nomatch h), fun _ => ⟨fun h => (nomatch h), fun _ => fin⟩⟩
end
end K01
/-! k01: names, spoilt names. -/
namespace K01
open PySem PySem.Spec PyProof.Rows L2 Mi
set_option linter.unusedVariables false
set_option linter.unusedSimpArgs false
set_option maxRecDepth 10000
abbrev letter (k : Nat) : Prop := 97 ≤ k ∧ k < 123
theorem az_len : AZ.cps.toList.length = 26 := by decide +kernel
theorem az_all : ∀ k ∈ AZ.cps.toList, letter k := by decide +kernel
theorem az_at {i : Int} (h0 : 0 ≤ i) (h1 : i < 26) : ∃ k, atI AZ.cps.toList i = some k ∧ letter k := by
  rw [atI_nat h0 (by rw [az_len]; exact h1)]
  have hl : i.toNat < AZ.cps.toList.length := by rw [az_len]; omega
  rw [List.getElem?_eq_getElem hl]
  exact ⟨_, rfl, az_all _ (List.getElem_mem hl)⟩
section
variable {call : FKey → List U → MH → Out U} {m : MH} {T : Tab} {Q : U → MH → Prop} {b g N : Nat}
theorem ok_join {ys : List Str} (h : (ys.map (·.length)).sum ≤ 1000000) : okP (meJoin (.str "") [.fl (ys.map U.str)] m) Q ↔ Q (.str (Txt.join Str.empty ys)) m := by
  have e : meJoin (.str "") [.fl (ys.map U.str)] m = some (.str (Txt.join Str.empty ys), m) := by
    unfold meJoin
    show ((some (ys.map U.str)).bind fun us => (strsOf us).bind fun ys => if decide ((ys.map (·.length)).sum + ys.length * ("" : Str).length ≤ 16777216) = true then some (U.str (Txt.join "" ys), m) else none) = _
    rw [Option.bind_some, Mi.strs_map, Option.bind_some, if_pos]
    · rfl
    · refine decide_eq_true ?_
      have : ("" : Str).length = 0 := rfl
      rw [this]
      omega
  rw [e]
  exact Iff.rfl
theorem sum_ones : ∀ {ys : List Str}, (∀ y ∈ ys, y.length = 1) → (ys.map (·.length)).sum = ys.length
  | [], _ => rfl
  | y :: ys, h => by
    rw [List.map_cons, List.sum_cons, h y List.mem_cons_self, sum_ones fun z hz => h z (List.mem_cons_of_mem _ hz), List.length_cons]
    omega
theorem rng_get {lo : Int} {n i : Nat} {u : U} (h : (rangeU lo n)[i]? = some u) : u = .int (lo + (i : Nat)) ∧ i < n := by
  have hi : i < (rangeU lo n).length := (List.getElem?_eq_some_iff.mp h).1
  rw [rangeU_len] at hi
  rw [rangeU_get lo n i hi] at h
  cases h
  exact ⟨rfl, hi⟩
theorem name_ok (hd : DrawC call) (h : Bag m b g N) (hN : N + 20 < 10 ^ 9) : okS (c_law_name call [some (.ref b), none, none, none, none] m) (fun _ _ => False) fun v m' => ∃ z, v = .str z ∧ z.length ≤ 8 ∧ Sg letter z ∧ Bag m' b g (N + 10) ∧ Fr b g m m' := by
  unfold c_law_name
  simp only [ok_sSeq, ok_sAsg, ok_cBin, ok_cCallK, ok_cCons, ok_cVar0, ok_cK, ok_cNil]
  refine ⟨rfl, rfl, okO_mono (hd m b g N 3 h (by omega) (by decide) (by decide)) ?_⟩
  rintro v m1 ⟨i, rfl, i0, i3, h1, f1⟩
  simp only [ok_cmpI, ok_gName, List.set_cons_succ, List.set_cons_zero, ok_cVar0, ok_cVarS, ok_cIf, ok_cTruth, okT_bl, ok_cK, ok_sRet]
  generalize gtI i 0 = few
  have go : ∀ k : Int, 0 < k → k ≤ 8 → okO (call ("_law_draw", none) [.ref b, .int k] m1) fun w m2 => okP (addU (.int 1) w m2) fun u m2 => okO ((cMeth (tb call) "join" 1 [] (cK (.str "")) (cCons (cLc false (cRng1 (cCons (cVar 3) cNil)) (Mi.gName 4) cYes (cBin idxU (cVar 2) (cIf (cTruth (cVar 1)) (cBin mulU (cCallK 2 0 (fun as _ m => call ("_law_draw", none) as m) (cCons (cVar 0) (cCons (cK (.int 2)) cNil)) cNil) (cK (.int 25))) (cCallK 2 0 (fun as _ m => call ("_law_draw", none) as m) (cCons (cVar 0) (cCons (cK (.int 26)) cNil)) cNil))) [4]) cNil) cNil) [some (.ref b), some (.bl few), some (.str AZ), some u, none] m2) fun v m' => ∃ z, v = .str z ∧ z.length ≤ 8 ∧ Sg letter z ∧ Bag m' b g (N + 10) ∧ Fr b g m m' := fun k k0 k8 => by
    refine okO_mono (hd m1 b g (N + 1) k h1 (by omega) k0 (by omega)) ?_
    rintro v m2 ⟨j, rfl, j0, j1, h2, f2⟩
    rw [ok_add]
    refine ok_meth (kind := "str") (phi := meJoin) rfl ?_
    have rb : rngBd (1 + j) = true := by
      unfold rngBd
      rw [Bool.and_eq_true, decide_eq_true_eq, decide_eq_true_eq]
      omega
    have hl : lineOk (constIt (rangeU 0 (1 + j).toNat)).len = true := by
      show lineOk (rangeU 0 (1 + j).toNat).length = true
      rw [rangeU_len]
      exact line_le (k := 8) (by omega) (by decide)
    simp only [ok_cK, ok_cCons, ok_cLc, ok_cRng1, ok_cVarS, ok_cVar0, ok_cNil, ok_rng1, rb, hl, true_and]
    refine ⟨rfl, ok_lc (fun i acc m3 => ∃ ys : List Str, acc = ys.map U.str ∧ ys.length = i ∧ (∀ y ∈ ys, Sg letter y ∧ y.length = 1) ∧ Bag m3 b g (N + 2 + i) ∧ Fr b g m1 m3) ⟨[], rfl, rfl, fun _ h => (nomatch h), h2, f2⟩ ?_ ?_⟩
    · rintro i u acc m3 hu ⟨ys, rfl, hy, ha, h3, f3⟩
      obtain ⟨rfl, hi⟩ := rng_get hu
      have hi8 : i < 8 := by omega
      have stp : ∀ {x : Int} {m4 : MH}, 0 ≤ x → x < 26 → Bag m4 b g (N + 2 + i + 1) → Fr b g m1 m4 → okP (idxU (.str AZ) (.int x) m4) fun w m5 => ∃ ys' : List Str, ys.map U.str ++ [w] = ys'.map U.str ∧ ys'.length = i + 1 ∧ (∀ y ∈ ys', Sg letter y ∧ y.length = 1) ∧ Bag m5 b g (N + 2 + (i + 1)) ∧ Fr b g m1 m5 := fun {x m4} x0 x1 h4 f4 => by
        obtain ⟨k, ek, lk⟩ := az_at x0 x1
        rw [ok_idxS (by rw [show AZ.length = 26 from az_len]; rfl) ek]
        refine ⟨ys ++ [⟨#[k]⟩], by rw [List.map_append]; rfl, by rw [List.length_append, hy]; rfl, fun y hy => ?_, h4, f4⟩
        rcases List.mem_append.mp hy with hy | hy
        · exact ha y hy
        · rw [List.mem_singleton.mp hy]
          exact ⟨Sg.one lk, rfl⟩
      simp only [ok_gName, wipeU, List.set_cons_succ, List.set_cons_zero, ok_cYes, ok_cBin, ok_cVarS, ok_cVar0, ok_cIf, ok_cTruth, okT_bl, ok_cCallK, ok_cCons, ok_cK, ok_cNil]
      refine ⟨fun _ => ⟨fun _ => ⟨rfl, rfl, okO_mono (hd m3 b g _ 2 h3 (by omega) (by decide) (by decide)) ?_⟩, fun _ => ⟨rfl, rfl, okO_mono (hd m3 b g _ 26 h3 (by omega) (by decide) (by decide)) ?_⟩⟩, fun h => (nomatch h)⟩
      · rintro v m4 ⟨y, rfl, y0, y1, h4, f4⟩
        have mo : mulOk y 25 = true := by
          unfold mulOk
          rw [Bool.or_eq_true, Bool.or_eq_true]
          exact .inl (.inr rfl)
        rw [ok_mul mo]
        exact stp (by omega) (by omega) h4 (f3.trans f4)
      · rintro v m4 ⟨y, rfl, y0, y1, h4, f4⟩
        exact stp y0 y1 h4 (f3.trans f4)
    · rintro acc m3 ⟨ys, rfl, hy, ha, h3, f3⟩
      rw [rangeU_len] at hy h3
      have hs : (ys.map (·.length)).sum = ys.length := sum_ones fun y hy => (ha y hy).2
      simp only [flP]
      refine ⟨rfl, (ok_join (by rw [hs]; omega)).mpr ⟨_, rfl, ?_, Sg.join fun y hy => (ha y hy).1, h3.up (by omega), f1.trans f3⟩⟩
      rw [len_join, hs]
      omega
  exact ⟨fun _ => ⟨rfl, rfl, go 4 (by decide) (by decide)⟩, fun _ => ⟨rfl, rfl, go 8 (by decide) (by decide)⟩⟩
end
end K01
/-! k01: spoilt names. -/
namespace K01
open PySem PySem.Spec PyProof.Rows L2 Mi
set_option linter.unusedVariables false
set_option linter.unusedSimpArgs false
set_option maxRecDepth 10000
section
variable {call : FKey → List U → MH → Out U} {m : MH} {T : Tab} {Q : U → MH → Prop} {b g N : Nat}
def Good (z : Str) : Prop := z.length ≤ 1000000 ∧ Sg lawful z
def Thing (u : U) (m : MH) : Prop := (∃ z, u = .str z ∧ Good z) ∨ ∃ a, tyU u m = some a ∧ a ≠ "str"
theorem Good.line {z : Str} (h : Good z) : lineOk z.length = true := line_le h.1 (by decide)
theorem bag_lt (h : Bag m b g N) : b < m.length ∧ g < m.length := by
  obtain ⟨gs, ls, n, s, h, _⟩ := h
  exact ⟨get_lt h.hb, get_lt h.hg⟩
theorem bag_push (h : Bag m b g N) (o : MO) : Bag (m ++ [o]) b g N := by
  obtain ⟨gs, ls, n, s, h, hn⟩ := h
  exact ⟨gs, ls, n, s, ⟨by rw [List.getElem?_append_left (get_lt h.hb)]; exact h.hb, by rw [List.getElem?_append_left (get_lt h.hg)]; exact h.hg, h.ne, h.len, h.l0, h.lb, h.n0, h.s0, h.s1⟩, hn⟩
def SM : Str := " !\"#$&'()*+,-./0123456789:;<=>?@ABCDEFGHIJKLMNOPQRSTUVWXYZ[\\]^_`{|}~\n\t"
theorem sm_all : ∀ k ∈ SM.cps.toList, lawful k := by decide +kernel
theorem sm_len : 0 < SM.length ∧ SM.length ≤ 100 := by decide +kernel
theorem up_all : ∀ c, letter c → ∀ k ∈ Unicode.upperOf c, lawful k := by
  have h : ∀ c ∈ List.range 123, 97 ≤ c → ∀ k ∈ Unicode.upperOf c, k < 0x110000 := by decide +kernel
  exact fun c hc k hk => h c (List.mem_range.mpr hc.2) hc.1 k hk
theorem ok_upper {z : Str} (h : z.length ≤ 8) : okP (meUpper (.str z) [] m) Q ↔ Q (.str (Txt.upper z)) m := by
  show okP (if decide (z.length ≤ 5592405) = true then some (.str (Txt.upper z), m) else none) Q ↔ _
  rw [if_pos (decide_eq_true (by omega))]
  exact Iff.rfl
theorem thing_get {us : List U} {i : Int} (h0 : 0 ≤ i) (h1 : i < us.length) (h : ∀ u ∈ us, Thing u m) : ∃ u, atI us i = some u ∧ Thing u m := by
  rw [atI_nat h0 h1]
  have hl : i.toNat < us.length := by omega
  rw [List.getElem?_eq_getElem hl]
  exact ⟨_, rfl, h _ (List.getElem_mem hl)⟩
theorem lw_of {z : Str} (h : Sg letter z) : Sg lawful z := fun k hk => by
  have := (h k hk).2
  show k < 0x110000
  omega
theorem bent_ok {z : Str} (hz : Sg letter z) (hl : z.length ≤ 8) (hd : DrawC call) (h : Bag m b g N) (hN : N + 20 < 10 ^ 9) :
    okS (c_law_bent call [some (.ref b), some (.str z), none, none, none, none, none] m) (fun _ _ => False) fun v m' => Thing v m' ∧ Bag m' b g (N + 10) := by
  have gz : Good z := ⟨by omega, lw_of hz⟩
  have sl := sm_len
  unfold c_law_bent
  have lsm : lineOk SM.length = true := line_le sl.2 (by decide)
  have e1 : (SM : Str) = " !\"#$&'()*+,-./0123456789:;<=>?@ABCDEFGHIJKLMNOPQRSTUVWXYZ[\\]^_`{|}~\n\t" := rfl
  rw [← e1]
  simp only [ok_sSeq, ok_sAsg, ok_cK, ok_gName, List.set_cons_succ, List.set_cons_zero, ok_cBin, ok_cVarS, ok_cVar0, ok_cCallK, ok_cCons, ok_cFn, ok_cNil, ok_lenS lsm]
  refine ⟨rfl, rfl, okO_mono (hd m b g N _ h (by omega) (by omega) (by omega)) ?_⟩
  rintro v m1 ⟨i, rfl, i0, i1, h1, f1⟩
  obtain ⟨k, ek, lk⟩ : ∃ k, atI SM.cps.toList i = some k ∧ lawful k := by
    rw [atI_nat i0 i1]
    have hlt : i.toNat < SM.cps.toList.length := by
      have : SM.cps.toList.length = SM.length := rfl
      omega
    rw [List.getElem?_eq_getElem hlt]
    exact ⟨_, rfl, sm_all _ (List.getElem_mem hlt)⟩
  rw [ok_idxS lsm ek]
  simp only [ok_gName, List.set_cons_succ, List.set_cons_zero, ok_cBin, ok_cVarS, ok_cVar0, ok_cCallK, ok_cCons, ok_cFn, ok_cNil, ok_cK, ok_lenS gz.line, ok_add]
  refine ⟨rfl, rfl, okO_mono (hd m1 b g (N + 1) _ h1 (by omega) (by omega) (by omega)) ?_⟩
  rintro v m2 ⟨at_, rfl, a0, a1, h2, f2⟩
  simp only [ok_gName, List.set_cons_succ, List.set_cons_zero, ok_cBin, ok_cVarS, ok_cVar0, ok_cCallK, ok_cCons, ok_cFn, ok_cNil, ok_cK, ok_mkTup (us := [.str z]) rfl, ok_mkFl (us := [.str z]) rfl, ok_cDic]
  refine ok_meth (kind := "str") (phi := meUpper) rfl ?_
  simp only [ok_cVarS, ok_cVar0, ok_cNil, ok_upper hl]
  refine ⟨rfl, rfl, ?_⟩
  rw [ok_mkFl rfl]
  have h3 := bag_push h2 (.dic false [])
  obtain ⟨lb, lg⟩ := bag_lt h2
  refine ⟨rfl, rfl, okO_mono (hd _ b g (N + 1 + 1) 8 h3 (by omega) (by decide) (by decide)) ?_⟩
  rintro v m3 ⟨j, rfl, j0, j1, h4, f4⟩
  have ed : m3[m2.length]? = some (.dic false []) := by
    rw [f4.2 m2.length (by omega) (by omega), List.getElem?_append_right (Nat.le_refl _), Nat.sub_self]
    rfl
  have sg : Sg lawful (⟨#[k]⟩ : Str) := Sg.one lk
  have gu : Good (Txt.upper z) := ⟨by have := Mi.len_upper z; omega, Sg.upper hz up_all⟩
  have things : ∀ u ∈ [U.non, .bl true, .int 7, .str "", .tup [.str z], .fl [.str z], .ref m2.length, .str (Txt.upper z)], ∀ m' : MH, m'[m2.length]? = some (.dic false []) → Thing u m' := by
    intro u hu m' hm
    simp only [List.mem_cons, List.not_mem_nil, or_false] at hu
    rcases hu with rfl | rfl | rfl | rfl | rfl | rfl | rfl | rfl
    · exact .inr ⟨"NoneType", rfl, by decide⟩
    · exact .inr ⟨"bool", rfl, by decide⟩
    · exact .inr ⟨"int", rfl, by decide⟩
    · exact .inl ⟨_, rfl, Nat.zero_le _, fun k hk => (nomatch hk)⟩
    · exact .inr ⟨"tuple", rfl, by decide⟩
    · exact .inr ⟨"list", rfl, by decide⟩
    · refine .inr ⟨"dict", ?_, by decide⟩
      unfold tyU
      simp only [hm]
    · exact .inl ⟨_, rfl, gu⟩
  obtain ⟨odd, eo, ho⟩ : ∃ u, atI [U.non, .bl true, .int 7, .str "", .tup [.str z], .fl [.str z], .ref m2.length, .str (Txt.upper z)] j = some u ∧ u ∈ [U.non, .bl true, .int 7, .str "", .tup [.str z], .fl [.str z], .ref m2.length, .str (Txt.upper z)] := by
    rw [atI_nat j0 (by show j < 8; exact j1)]
    have hlt : j.toNat < [U.non, .bl true, .int 7, .str "", .tup [.str z], .fl [.str z], .ref m2.length, .str (Txt.upper z)].length := by show j.toNat < 8; omega
    rw [List.getElem?_eq_getElem hlt]
    exact ⟨_, rfl, List.getElem_mem hlt⟩
  rw [ok_idxF eo]
  -- the spoilt ones
  have gc : ∀ (x : Str) (lo hi : Option Int), Good x → Good (cutS x lo hi) := fun x lo hi hx => ⟨Nat.le_trans (len_cut x lo hi) hx.1, hx.2.cut lo hi⟩
  have ll : ∀ {x y : Str}, Good x → y.length ≤ 1000000 → lineOk (x.length + y.length) = true := fun {x y} hx hy => line_le (k := 2000000) (by have := hx.1; omega) (by decide)
  have c1 : (cutS z none (some at_)).length ≤ 8 := Nat.le_trans (len_cut _ _ _) hl
  have l1 : (⟨#[k]⟩ : Str).length = 1 := rfl
  have l2 : (cutS z none (some at_) ++ (⟨#[k]⟩ : Str)).length ≤ 9 := by rw [len_app, l1]; omega
  have g2 : Good (cutS z none (some at_) ++ (⟨#[k]⟩ : Str)) := ⟨by omega, (gz.2.cut _ _).app sg⟩
  have big : ∀ (x : Str) (lo hi : Option Int), (cutS z lo hi).length ≤ 8 := fun x lo hi => Nat.le_trans (len_cut _ _ _) hl
  have g3 : ∀ (lo hi : Option Int), Good ((cutS z none (some at_) ++ (⟨#[k]⟩ : Str)) ++ cutS z lo hi) := fun lo hi => ⟨by rw [len_app]; have := big z lo hi; omega, g2.2.app (gz.2.cut _ _)⟩
  have mo : ∀ n : Int, 0 ≤ n → n ≤ 1900 → (decide (0 ≤ n) && decide (n ≤ 100000) && decide (z.length ≤ 100)) = true := fun n n0 n1 => by
    rw [Bool.and_eq_true, Bool.and_eq_true, decide_eq_true_eq, decide_eq_true_eq, decide_eq_true_eq]
    omega
  have gr : ∀ n : Int, 0 ≤ n → n ≤ 1900 → Good (repS z n) := fun n n0 n1 => ⟨by
    have := len_rep z n
    have h9 : n.toNat * z.length ≤ 1900 * 8 := Nat.mul_le_mul (by omega) hl
    omega, gz.2.rep n⟩
  simp only [ok_gName, List.set_cons_succ, List.set_cons_zero, ok_cBin, ok_cVarS, ok_cVar0, ok_cCons, ok_cFn, ok_cNil, ok_cK, ok_cSlice, ok_cPart_none, ok_cPart_some, okI_int, ok_slcS gz.line, ok_add,
    ok_addS (ll (gc z none (some at_) gz) (show (⟨#[k]⟩ : Str).length ≤ 1000000 by rw [l1]; decide)), ok_addS (ll g2 (Nat.le_trans (big z (some at_) none) (by decide))), ok_addS (ll g2 (Nat.le_trans (big z (some (at_ + 1)) none) (by decide))),
    ok_mulS (mo 9 (by decide) (by decide)), ok_mulS (mo 8 (by decide) (by decide)), ok_mulS (mo 1900 (by decide) (by decide)), ok_slcS (gr 9 (by decide) (by decide)).line, ok_slcS (gr 8 (by decide) (by decide)).line, ok_slcS (gr 1900 (by decide) (by decide)).line, ok_sRet]
  rw [ok_mkFl rfl]
  rw [ok_mkFl rfl, ok_addF rfl]
  simp only [ok_cCallK, ok_cCons, ok_cVar0, ok_cK, ok_cNil]
  refine ⟨rfl, rfl, okO_mono (hd m3 b g _ 6 h4 (by omega) (by decide) (by decide)) ?_⟩
  rintro v m4 ⟨y, rfl, y0, y1, h5, f5⟩
  have hm : m4[m2.length]? = some (.dic false []) := by
    rw [f5.2 m2.length (by omega) (by omega)]
    exact ed
  obtain ⟨u, eu, hu⟩ := thing_get (m := m4) (us := [U.str (cutS z none (some at_) ++ (⟨#[k]⟩ : Str) ++ cutS z (some at_) none), U.str (cutS z none (some at_) ++ (⟨#[k]⟩ : Str) ++ cutS z (some (at_ + 1)) none), U.str (cutS (repS z 9) none (some 9)), U.str (cutS (repS z 8) none (some 8)), odd] ++ [U.str (cutS (repS z 1900) none (some 1900))]) y0 y1 (by
    intro u hu
    simp only [List.mem_append, List.mem_cons, List.not_mem_nil, or_false] at hu
    rcases hu with (rfl | rfl | rfl | rfl | rfl) | rfl
    · exact .inl ⟨_, rfl, g3 _ _⟩
    · exact .inl ⟨_, rfl, g3 _ _⟩
    · exact .inl ⟨_, rfl, gc _ _ _ (gr 9 (by decide) (by decide))⟩
    · exact .inl ⟨_, rfl, gc _ _ _ (gr 8 (by decide) (by decide))⟩
    · exact things _ ho m4 hm
    · exact .inl ⟨_, rfl, gc _ _ _ (gr 1900 (by decide) (by decide))⟩)
  rw [ok_idxF eu]
  exact ⟨hu, h5.up (by omega)⟩
end
end K01
/-! k01: what the calls promise, by depth. -/
namespace K01
open PySem PySem.Spec PyProof.Rows L2 Mi
set_option linter.unusedVariables false
set_option linter.unusedSimpArgs false
set_option maxRecDepth 10000
def nmU : U → Bool
  | .str z => nameB z
  | _ => false
structure Calls (call : FKey → List U → MH → Out U) : Prop where
  bag : ∀ ns : List Int, ns.length ≤ 63 → ∀ m : MH, okO (call ("_law_bag", none) [.cl (ns.map U.int)] m) fun v m' => v = .ref (m.length + 1) ∧ Bag m' (m.length + 1) m.length 0 ∧ m'.length = m.length + 2 ∧ ∀ i, i < m.length → m'[i]? = m[i]?
  draw : DrawC call
  count : CountC call
  name : ∀ m b g N, Bag m b g N → N + 20 < 10 ^ 9 → okO (call ("_law_name", none) [.ref b] m) fun v m' => ∃ z, v = .str z ∧ z.length ≤ 8 ∧ Sg letter z ∧ Bag m' b g (N + 10)
  bent : ∀ m b g N z, Bag m b g N → N + 20 < 10 ^ 9 → Sg letter z → z.length ≤ 8 → okO (call ("_law_bent", none) [.ref b, .str z] m) fun v m' => Thing v m' ∧ Bag m' b g (N + 10)
  isn : ∀ m u, Thing u m → okO (call ("is_name", none) [u] m) fun v m' => v = .bl (nmU u) ∧ m' = m
  lsn : ∀ m u, Thing u m → okO (call ("_law_is_name", none) [u] m) fun v m' => v = .bl (nmU u) ∧ m' = m
  whole : ∀ m i, okO (call ("_law_whole", none) [.int i, .int 0] m) fun v m' => v = .bl (decide (0 ≤ i)) ∧ m' = m
  slf : ∀ (m : MH) (i : Int), 0 ≤ i → okO (call ("seal_of", none) [.int i] m) fun v m' => v = .int (3 * i + 17) ∧ m' = m
  refu : ∀ m u, NoSec u m → okO (call ("_law_refused", none) [u] m) fun v m' => v = .bl true ∧ m' = m
theorem drawC (n : Nat) : DrawC (callN ld.sta (n + 1)) := fun m b g N k h hN h0 h1 => by
  rw [callN_some (f := d_law_draw) (by kernel_rfl)]
  exact ok_run (e_law_draw _) rfl (okS_mono (draw_ok (T := tb (callN ld.sta n)) h hN h0 h1) (fun _ _ h => h.elim) fun _ _ h => h)
theorem countC (n : Nat) : CountC (callN ld.sta (n + 2)) := fun m b g N h hN => by
  rw [callN_some (f := d_law_count) (by kernel_rfl)]
  exact ok_run (e_law_count _) rfl (okS_mono (count_ok (drawC n) h hN) (fun _ _ h => h.elim) fun _ _ h => h)
theorem wholeC (n : Nat) : WholeC (callN ld.sta (n + 1)) := by
  rw [show callN ld.sta (n + 1) = callN ld.sta (n + 1) from rfl]
  refine ⟨fun m i => ?_, fun m u h => ?_⟩
  · rw [callN_some (f := d_is_whole) (by kernel_rfl)]
    exact ok_run (e_is_whole _) rfl (okS_mono (whole_int i) (fun _ _ h => h.elim) fun _ _ h => h)
  · rw [callN_some (f := d_is_whole) (by kernel_rfl)]
    exact ok_run (e_is_whole _) rfl (okS_mono (whole_no h) (fun _ _ h => h.elim) fun _ _ h => h)
theorem countI (n : Nat) : CountI (callN ld.sta (n + 2)) := by
  refine ⟨fun m i => ?_, fun m u h => ?_⟩
  · rw [callN_some (f := d_is_count) (by kernel_rfl)]
    exact ok_run (e_is_count _) rfl (okS_mono (count_int (wholeC n) i) (fun _ _ h => h.elim) fun _ _ h => h)
  · rw [callN_some (f := d_is_count) (by kernel_rfl)]
    exact ok_run (e_is_count _) rfl (okS_mono (count_no (wholeC n) h) (fun _ _ h => h.elim) fun _ _ h => h)
theorem sealN (n : Nat) {m : MH} {u : U} (h : NoSec u m) : callN ld.sta (n + 3) ("seal_of", none) [u] m = .err ⟨"NoSecret", []⟩ m := by
  rw [callN_some (f := d_seal_of) (by kernel_rfl)]
  unfold runDf
  rw [if_pos (show [u].length = d_seal_of.ps.length from rfl), e_seal_of]
  have e := seal_no (countI n) h
  show endO (c_seal_of (callN ld.sta (n + 2)) [some u] m) = _
  rw [e]
  rfl
theorem calls (n : Nat) : Calls (callN ld.sta (n + 4)) where
  bag := fun ns hl m => by
    rw [callN_some (f := d_law_bag) (by kernel_rfl)]
    exact ok_run (e_law_bag _) rfl (okS_mono (bag_ok (m := m) hl) (fun _ _ h => h.elim) fun _ _ h => h)
  draw := drawC (n + 3)
  count := countC (n + 2)
  name := fun m b g N h hN => by
    rw [callN_some (f := d_law_name) (by kernel_rfl)]
    exact ok_run (e_law_name _) rfl (okS_mono (name_ok (drawC (n + 2)) h hN) (fun _ _ h => h.elim) fun _ _ ⟨z, h1, h2, h3, h4, _⟩ => ⟨z, h1, h2, h3, h4⟩)
  bent := fun m b g N z h hN hz hl => by
    rw [callN_some (f := d_law_bent) (by kernel_rfl)]
    exact ok_run (e_law_bent _) rfl (okS_mono (bent_ok hz hl (drawC (n + 2)) h hN) (fun _ _ h => h.elim) fun _ _ h => h)
  isn := fun m u h => by
    rw [callN_some (f := d_is_name) (by kernel_rfl)]
    rcases h with ⟨z, rfl, hz⟩ | ⟨a, h1, h2⟩
    · exact ok_run (e_is_name _) rfl (okS_mono (isname_str hz.line) (fun _ _ h => h.elim) fun _ _ h => h)
    · have e : nmU u = false := by
        cases u with
        | str z => exact absurd (Option.some.inj h1).symm h2
        | _ => rfl
      rw [e]
      exact ok_run (e_is_name _) rfl (okS_mono (isname_other h1 h2) (fun _ _ h => h.elim) fun _ _ h => h)
  lsn := fun m u h => by
    rw [callN_some (f := d_law_is_name) (by kernel_rfl)]
    rcases h with ⟨z, rfl, hz⟩ | ⟨a, h1, h2⟩
    · exact ok_run (e_law_is_name _) rfl (okS_mono (lname_str hz.line hz.2) (fun _ _ h => h.elim) fun _ _ h => h)
    · have e : nmU u = false := by
        cases u with
        | str z => exact absurd (Option.some.inj h1).symm h2
        | _ => rfl
      rw [e]
      exact ok_run (e_law_is_name _) rfl (okS_mono (lname_other h1 h2) (fun _ _ h => h.elim) fun _ _ h => h)
  whole := fun m i => by
    rw [callN_some (f := d_law_whole) (by kernel_rfl)]
    exact ok_run (e_law_whole _) rfl (okS_mono (lwhole_int i 0) (fun _ _ h => h.elim) fun _ _ h => h)
  slf := fun m i hi => by
    rw [callN_some (f := d_seal_of) (by kernel_rfl)]
    exact ok_run (e_seal_of _) rfl (okS_mono (seal_int (countI (n + 1)) hi) (fun _ _ h => h.elim) fun _ _ h => h)
  refu := fun m u h => by
    rw [callN_some (f := d_law_refused) (by kernel_rfl)]
    exact ok_run (e_law_refused _) rfl (okS_mono (refused_ok (sealN n h)) (fun _ _ h => h.elim) fun _ _ h => h)
end K01
/-! k01: the law. -/
namespace K01
open PySem PySem.Spec PyProof.Rows L2 Mi
set_option linter.unusedVariables false
set_option linter.unusedSimpArgs false
set_option maxRecDepth 10000
section
variable {call : FKey → List U → MH → Out U} {ns : List Int} {b g : Nat}
abbrev sc (ns : List Int) : Option U := some (.cl (ns.map U.int))
/-- the loop over names -/
theorem loop1 (C : Calls call) {m : MH} {N : Nat} {R : U → MH → Prop} {P : Env1 → MH → Prop} (h : Bag m b g N) (hN : N + 1000 < 10 ^ 9)
    (fin : ∀ x2 x8 x9 x12 m', Bag m' b g (N + 300) → P [sc ns, some (.ref b), x2, none, none, none, none, none, x8, x9, none, none, x12, none, none] m') :
    okS (sFor (cRng1 (cCons (cK (.int 10)) cNil)) (gName 2) (sSeq (sAsg (cCallK 1 0 (fun as _ m => call ("_law_name", none) as m) (cCons (cVar 1) cNil) cNil) (gName 8)) (sSeq (sFor (cIt (cFn mkFl (cCons (cVar 8) (cCons (cCallK 2 0 (fun as _ m => call ("_law_bent", none) as m) (cCons (cVar 1) (cCons (cVar 8) cNil)) cNil) (cCons (cVar 8) cNil))))) (gName 9) (sSeq (sAsg (cCallK 1 0 (fun as _ m => call ("is_name", none) as m) (cCons (cVar 9) cNil) cNil) (gName 12)) (sSeq (sIf (cOr (cNot (cTruth (cFn (biIsa (tb call)) (cCons (cVar 12) (cCons (cK (.ty "bool")) cNil))))) (cIsBl (cBin neU (cVar 12) (cCallK 1 0 (fun as _ m => call ("_law_is_name", none) as m) (cCons (cVar 9) cNil) cNil)))) (sSeq (sRet (cK (.bl false))) sNx) sNx) sNx))) sNx))
      [sc ns, some (.ref b), none, none, none, none, none, none, none, none, none, none, none, none, none] m) P R := by
  simp only [ok_sFor, ok_cRng1, ok_cCons, ok_cK, ok_cNil, ok_rng1]
  refine ⟨rfl, ok_loop (us := rangeU 0 10) (fun i t m' => ∃ x2 x8 x9 x12, t = [sc ns, some (.ref b), x2, none, none, none, none, none, x8, x9, none, none, x12, none, none] ∧ Bag m' b g (N + 20 * i)) ⟨none, none, none, none, rfl, h⟩ ?_ ?_⟩
  · rintro i u t m1 hu ⟨x2, x8, x9, x12, rfl, h1⟩
    obtain ⟨rfl, hi⟩ := rng_get hu
    simp only [ok_gName, List.set_cons_succ, List.set_cons_zero, ok_sSeq, ok_sAsg, ok_cCallK, ok_cCons, ok_cVarS, ok_cVar0, ok_cNil]
    refine ⟨rfl, rfl, okO_mono (C.name m1 b g _ h1 (by omega)) ?_⟩
    rintro v m2 ⟨z, rfl, zl, zs, h2⟩
    simp only [ok_gName, List.set_cons_succ, List.set_cons_zero, ok_sFor, ok_cIt, ok_cFn, ok_cCallK, ok_cCons, ok_cVarS, ok_cVar0, ok_cNil]
    refine ⟨rfl, rfl, okO_mono (C.bent m2 b g _ z h2 (by omega) zs zl) ?_⟩
    rintro w m3 ⟨hw, h3⟩
    rw [ok_mkFl rfl, ok_itOf_fl]
    have hz : Thing (.str z) m3 := .inl ⟨z, rfl, by omega, lw_of zs⟩
    have hth : ∀ u ∈ [U.str z, w, .str z], Thing u m3 := by
      intro u hu
      simp only [List.mem_cons, List.not_mem_nil, or_false] at hu
      rcases hu with rfl | rfl | rfl
      · exact hz
      · exact hw
      · exact hz
    refine ok_loop (us := [U.str z, w, .str z]) (fun j t m' => m' = m3 ∧ ∃ x9 x12, t = [sc ns, some (.ref b), some (.int (0 + (i : Nat))), none, none, none, none, none, some (.str z), x9, none, none, x12, none, none]) ⟨rfl, x9, x12, rfl⟩ ?_ ?_
    · rintro j u t m4 hu ⟨rfl, y9, y12, rfl⟩
      have ht := hth u (List.mem_of_getElem? hu)
      simp only [ok_gName, List.set_cons_succ, List.set_cons_zero, ok_sSeq, ok_sAsg, ok_cCallK, ok_cCons, ok_cVarS, ok_cVar0, ok_cNil]
      refine ⟨rfl, rfl, okO_mono (C.isn m4 u ht) ?_⟩
      rintro v m5 ⟨rfl, rfl⟩
      have t1 : tyU (.bl (nmU u)) m5 = some "bool" := rfl
      simp only [ok_gName, List.set_cons_succ, List.set_cons_zero, ok_sIf, ok_cOr, ok_cNot, ok_cTruth, ok_cFn, ok_cCallK, ok_cCons, ok_cVarS, ok_cVar0, ok_cNil, ok_cK, ok_isa t1 tB, okT_bl, isT_bb, ok_cIsBl, ok_cBin]
      refine ⟨fun h => (nomatch h), fun _ => ⟨rfl, rfl, okO_mono (C.lsn m5 u ht) ?_⟩⟩
      rintro v m6 ⟨rfl, rfl⟩
      simp only [ok_neB, ok_blOf, ok_sNx, decide_true, Bool.not_true]
      exact ⟨fun h => (nomatch h), fun _ => ⟨trivial, _, _, rfl⟩⟩
    · rintro t m4 ⟨rfl, y9, y12, rfl⟩
      exact ⟨_, _, _, _, rfl, h3.up (by omega)⟩
  · rintro t m1 ⟨x2, x8, x9, x12, rfl, h1⟩
    exact fin _ _ _ _ _ (h1.up (by rw [rangeU_len]; omega))
end
end K01
/-! k01: the secrets. -/
namespace K01
open PySem PySem.Spec PyProof.Rows L2 Mi
set_option linter.unusedVariables false
set_option linter.unusedSimpArgs false
set_option maxRecDepth 10000
section
variable {call : FKey → List U → MH → Out U} {ns : List Int} {b g p : Nat} {Q : U → MH → Prop} {m : MH}
def SecL (m : MH) (p : Nat) (ss : List Int) : Prop := m[p]? = some (.lst (ss.map U.int)) ∧ ∀ s ∈ ss, 0 ≤ s ∧ s < 10 ^ 15
theorem ok_min {i j : Int} : okP (biMin [.int i, .int j] m) Q ↔ Q (.int (if j < i then j else i)) m := Iff.rfl
theorem SecL.fr {m' : MH} {ss : List Int} (h : SecL m p ss) (f : Fr b g m m') (n1 : p ≠ b) (n2 : p ≠ g) : SecL m' p ss := ⟨by rw [f.2 p n1 n2]; exact h.1, h.2⟩
theorem bag_set {N : Nat} (h : Bag m b g N) (n1 : p ≠ b) (n2 : p ≠ g) (o : MO) : Bag (m.set p o) b g N := by
  obtain ⟨gs, ls, n, s, h, hn⟩ := h
  exact ⟨gs, ls, n, s, ⟨by rw [List.getElem?_set_ne n1]; exact h.hb, by rw [List.getElem?_set_ne n2]; exact h.hg, h.ne, h.len, h.l0, h.lb, h.n0, h.s0, h.s1⟩, hn⟩
theorem loop2 (C : Calls call) {N : Nat} {R : U → MH → Prop} {P : Env1 → MH → Prop} {x2 x8 x9 x12 : Option U} (h : Bag m b g N) (hN : N + 1000 < 10 ^ 9) (hp : SecL m p []) (n1 : p ≠ b) (n2 : p ≠ g)
    (fin : ∀ x4 x10 m' ss, Bag m' b g (N + 100) → SecL m' p ss → ss.length ≤ 20 → P [sc ns, some (.ref b), x2, some (.ref p), x4, none, none, none, x8, x9, x10, none, x12, none, none] m') :
    okS (sFor (cRng1 (cCons (cBin addU (cK (.int 2)) (cCallK 2 0 (fun as _ m => call ("_law_draw", none) as m) (cCons (cVar 1) (cCons (cK (.int 12)) cNil)) cNil)) cNil)) (gName 4) (sSeq (sAsg (cIf (cAnd (cIsBl (cBin neU (cVar 3) (cFn mkFl cNil))) (cIsBl (cBin eqU (cCallK 2 0 (fun as _ m => call ("_law_draw", none) as m) (cCons (cVar 1) (cCons (cK (.int 2)) cNil)) cNil) (cK (.int 0))))) (cBin addU (cBin idxU (cVar 3) (cUn negU (cK (.int 1)))) (cK (.int 1))) (cCallK 1 0 (fun as _ m => call ("_law_count", none) as m) (cCons (cVar 1) cNil) cNil)) (gName 10)) (sSeq (sDrop (cMeth (tb call) "append" 1 [] (cVar 3) (cCons (cFn biMin (cCons (cVar 10) (cCons (cBin subU (cBin powU (cK (.int 10)) (cK (.int 15))) (cK (.int 1))) cNil))) cNil) cNil)) sNx))
      [sc ns, some (.ref b), x2, some (.ref p), none, none, none, none, x8, x9, none, none, x12, none, none] m) P R := by
  have pe : powOk 10 15 = true := rfl
  simp only [ok_sFor, ok_cRng1, ok_cCons, ok_cK, ok_cNil, ok_cBin, ok_cCallK, ok_cVarS, ok_cVar0]
  refine ⟨rfl, rfl, okO_mono (C.draw m b g N 12 h (by omega) (by decide) (by decide)) ?_⟩
  rintro v m1 ⟨j, rfl, j0, j1, h1, f1⟩
  have rb : rngBd (2 + j) = true := by
    unfold rngBd
    rw [Bool.and_eq_true, decide_eq_true_eq, decide_eq_true_eq]
    omega
  simp only [ok_add, ok_rng1, rb, true_and]
  refine ok_loop (us := rangeU 0 (2 + j).toNat) (fun i t m' => ∃ x4 x10 ss, t = [sc ns, some (.ref b), x2, some (.ref p), x4, none, none, none, x8, x9, x10, none, x12, none, none] ∧ Bag m' b g (N + 1 + 3 * i) ∧ SecL m' p ss ∧ ss.length = i) ⟨none, none, [], rfl, h1, hp.fr f1 n1 n2, rfl⟩ ?_ ?_
  · rintro i u t m2 hu ⟨x4, x10, ss, rfl, h2, hs, hsl⟩
    obtain ⟨rfl, hi⟩ := rng_get hu
    have hi20 : i < 20 := by omega
    -- behind the reckoning of near
    have app : ∀ (x : Int) (m3 : MH), 0 ≤ x → Bag m3 b g (N + 1 + 3 * i + 3) → SecL m3 p ss → okS ((sSeq (sDrop (cMeth (tb call) "append" 1 [] (cVar 3) (cCons (cFn biMin (cCons (cVar 10) (cCons (cBin subU (cBin powU (cK (.int 10)) (cK (.int 15))) (cK (.int 1))) cNil))) cNil) cNil)) sNx) [sc ns, some (.ref b), x2, some (.ref p), some (.int (0 + (i : Nat))), none, none, none, x8, x9, some (.int x), none, x12, none, none] m3) (fun t m' => ∃ x4 x10 ss, t = [sc ns, some (.ref b), x2, some (.ref p), x4, none, none, none, x8, x9, x10, none, x12, none, none] ∧ Bag m' b g (N + 1 + 3 * (i + 1)) ∧ SecL m' p ss ∧ ss.length = i + 1) R := fun x m3 x0 h3 hs3 => by
      simp only [ok_sSeq, ok_sDrop]
      refine ok_meth (kind := "list") (phi := meAppend) rfl ?_
      simp only [ok_cVarS, ok_cVar0, ok_cCons, ok_cFn, ok_cBin, ok_cK, ok_cNil, ok_pow pe, ok_sub, ok_min]
      refine ⟨recv_lst hs3.1, rfl, ?_⟩
      have e15 : (10 : Int) ^ (Int.toNat 15) = 1000000000000000 := rfl
      have ll : lineOk ((ss.map U.int).length + 1) = true := by rw [List.length_map, hsl]; exact line_le (k := 100) (by omega) (by decide)
      rw [ok_append hs3.1 ll]
      simp only [ok_sNx]
      refine ⟨_, _, ss ++ [if 10 ^ (Int.toNat 15) - 1 < x then 10 ^ (Int.toNat 15) - 1 else x], rfl, (bag_set h3 n1 n2 _).up (by omega), ⟨?_, fun s hs' => ?_⟩, by rw [List.length_append, hsl]; rfl⟩
      · rw [get_set hs3.1, List.map_append]
        rfl
      · rcases List.mem_append.mp hs' with hs' | hs'
        · exact hs3.2 s hs'
        · rw [List.mem_singleton.mp hs', e15]
          split <;> omega
    rw [ok_gName]
    simp only [List.set_cons_succ, List.set_cons_zero]
    rw [ok_sSeq]
    simp only [ok_sAsg, ok_cIf, ok_cAnd, ok_cIsBl, ok_cBin, ok_cVarS, ok_cVar0, ok_cFn, ok_cNil, ok_mkFl (us := []) rfl, ok_neOf (eq_nil_ref hs.1), ok_blOf, ok_cCallK, ok_cCons, ok_cK, ok_gName, List.set_cons_succ, List.set_cons_zero, ok_cUn, ok_neg, ok_eqI]
    have viaC : ∀ m3 : MH, Bag m3 b g (N + 1 + 3 * i + 1) → SecL m3 p ss → okO (call ("_law_count", none) [.ref b] m3) fun u m4 => okS ((sSeq (sDrop (cMeth (tb call) "append" 1 [] (cVar 3) (cCons (cFn biMin (cCons (cVar 10) (cCons (cBin subU (cBin powU (cK (.int 10)) (cK (.int 15))) (cK (.int 1))) cNil))) cNil) cNil)) sNx) [sc ns, some (.ref b), x2, some (.ref p), some (.int (0 + (i : Nat))), none, none, none, x8, x9, some u, none, x12, none, none] m4) (fun t m' => ∃ x4 x10 ss, t = [sc ns, some (.ref b), x2, some (.ref p), x4, none, none, none, x8, x9, x10, none, x12, none, none] ∧ Bag m' b g (N + 1 + 3 * (i + 1)) ∧ SecL m' p ss ∧ ss.length = i + 1) R := fun m3 h3 hs3 => by
      refine okO_mono (C.count m3 b g _ h3 (by omega)) ?_
      rintro v m4 ⟨x, rfl, x0, x1, h4, f4⟩
      exact app x m4 x0 (h4.up (by omega)) (hs3.fr f4 n1 n2)
    refine ⟨fun hne => ?_, fun he => ?_⟩
    · refine ⟨rfl, rfl, okO_mono (C.draw m2 b g _ 2 h2 (by omega) (by decide) (by decide)) ?_⟩
      rintro v m3 ⟨y, rfl, y0, y1, h3, f3⟩
      have hs3 := hs.fr f3 n1 n2
      rw [ok_eqI, ok_blOf]
      refine ⟨fun _ => ?_, fun _ => ⟨rfl, rfl, viaC m3 h3 hs3⟩⟩
      rcases List.eq_nil_or_concat ss with rfl | ⟨ss', s, rfl⟩
      · cases hne
      · have el : atI ((ss'.concat s).map U.int) (-1) = some (.int s) := by
          rw [List.concat_eq_append, List.map_append]
          exact atI_last
        rw [ok_idxL hs3.1 el, ok_add]
        have s0 := (hs3.2 s (by simp)).1
        exact app (s + 1) m3 (by omega) (h3.up (by omega)) hs3
    · exact ⟨fun h => (nomatch h), fun _ => ⟨rfl, rfl, viaC m2 (h2.up (by omega)) hs⟩⟩
  · rintro t m2 ⟨x4, x10, ss, rfl, h2, hs, hsl⟩
    rw [rangeU_len] at hsl h2
    exact fin _ _ _ ss (h2.up (by omega)) hs (by omega)
end
end K01
/-! k01: seals told for secrets; lists of the own heap walked. -/
namespace K01
open PySem PySem.Spec PyProof.Rows L2 Mi
set_option linter.unusedVariables false
set_option linter.unusedSimpArgs false
set_option maxRecDepth 10000
set_option exponentiation.threshold 2000
section
variable {call : FKey → List U → MH → Out U} {ns : List Int} {b g p : Nat} {Q : U → MH → Prop} {m : MH}
theorem ok_itRef {n : Nat} {us : List U} {P : ItU → MH → Prop} (h : m[n]? = some (.lst us)) : okP (itOf (.ref n) m) P ↔ P (refIt n us.length) m := by
  have e : itOf (.ref n) m = some (refIt n us.length, m) := by
    unfold itOf
    simp only [h]
  rw [e]
  exact Iff.rfl
theorem lcR_inv {n : Nat} {g : G1} {q : Fn1 Bool} {e : E1} {t0 : Env1} (Inv : Nat → List U → MH → Prop) {us : List U} (hI : ∀ i acc m, Inv i acc m → m[n]? = some (.lst us))
    (step : ∀ i u acc m, us[i]? = some u → Inv i acc m → okP (g u t0 m) fun t1 m1 => okO (q t1 m1) fun b m2 => (b = true → okO (e t1 m2) fun w m3 => Inv (i + 1) (acc ++ [w]) m3) ∧ (b = false → Inv (i + 1) acc m2)) :
    ∀ (k i : Nat) (acc : List U) (m : MH), i + k = us.length → Inv i acc m → okP (lcI (refIt n us.length) g q e t0 k i acc m) (Inv us.length)
  | 0, i, acc, m, hk, h => by
    have : i = us.length := by omega
    subst this
    have hf : (refIt n us.length).fin m = true := by
      show (match m[n]? with
        | some (.lst us') => decide (us'.length = us.length)
        | _ => false) = true
      rw [hI _ _ _ h]
      exact decide_eq_true rfl
    unfold lcI
    rw [if_pos hf]
    exact h
  | k + 1, i, acc, m, hk, h => by
    have hlt : i < us.length := by omega
    have eu : (refIt n us.length).get m i = some us[i] := by
      show (match m[n]? with
        | some (.lst us') => if us'.length = us.length then us'[i]? else none
        | _ => none) = _
      rw [hI _ _ _ h]
      show (if us.length = us.length then us[i]? else none) = _
      rw [if_pos rfl]
      exact List.getElem?_eq_getElem hlt
    have s := step i us[i] acc m (List.getElem?_eq_getElem hlt) h
    unfold lcI
    rw [eu, Option.bind_some]
    cases e1 : g us[i] t0 m with
    | none =>
      rw [e1] at s
      exact s.elim
    | some pp =>
      obtain ⟨t1, m1⟩ := pp
      rw [e1] at s
      rw [Option.bind_some]
      dsimp only
      have s' : okO (q t1 m1) fun b m2 => (b = true → okO (e t1 m2) fun w m3 => Inv (i + 1) (acc ++ [w]) m3) ∧ (b = false → Inv (i + 1) acc m2) := s
      cases e2 : q t1 m1 with
      | ok b m2 =>
        rw [e2] at s'
        cases b with
        | true =>
          have s2 := s'.1 rfl
          cases e3 : e t1 m2 with
          | ok w m3 =>
            rw [e3] at s2
            have s3 := lcR_inv Inv hI step k (i + 1) (acc ++ [w]) m3 (by omega) s2
            simp only [e3]
            exact s3
          | _ =>
            rw [e3] at s2
            exact s2.elim
        | false => exact lcR_inv Inv hI step k (i + 1) acc m2 (by omega) (s'.2 rfl)
      | _ =>
        rw [e2] at s'
        exact s'.elim
theorem ok_lcR {n : Nat} {g : G1} {q : Fn1 Bool} {e : E1} {t0 : Env1} {us : List U} {P : List U → MH → Prop} (Inv : Nat → List U → MH → Prop) (hI : ∀ i acc m, Inv i acc m → m[n]? = some (.lst us)) (h0 : Inv 0 [] m)
    (step : ∀ i u acc m, us[i]? = some u → Inv i acc m → okP (g u t0 m) fun t1 m1 => okO (q t1 m1) fun b m2 => (b = true → okO (e t1 m2) fun w m3 => Inv (i + 1) (acc ++ [w]) m3) ∧ (b = false → Inv (i + 1) acc m2))
    (fin : ∀ acc m, Inv us.length acc m → P acc m) : okP (lcI (refIt n us.length) g q e t0 us.length 0 [] m) P :=
  okP_mono (lcR_inv Inv hI step us.length 0 [] m (Nat.zero_add _) h0) fin
/-! ### figures -/
theorem text_len {n : Nat} : (Str.ofString (toString (n : Int))).length = (Nat.repr n).length := by
  have e : toString (n : Int) = Nat.repr n := rfl
  rw [e]
  exact PySem.ofString_length _
theorem figures {s : Nat} : (Nat.repr (3 * s + 17)).length ≤ (Nat.repr s).length + 2 := by
  have h0 : 0 < (Nat.repr s).length := by
    apply Nat.pos_of_ne_zero
    intro e
    have := (Nat.length_repr_le_iff (n := s) (k := 1) (by decide)).mp (by omega)
    have h9 : (Nat.repr s) = String.ofList (Nat.toDigits 10 s) := Nat.repr_eq_ofList_toDigits
    rw [h9, Nat.toDigits_eq_if (by decide), if_pos (by simpa using this)] at e
    simp at e
  refine (Nat.length_repr_le_iff (by omega)).mpr ?_
  have h1 := (Nat.length_repr_le_iff (n := s) (k := (Nat.repr s).length) h0).mp (Nat.le_refl _)
  have h2 : 10 ≤ 10 ^ (Nat.repr s).length := Nat.le_self_pow (by omega) 10
  rw [Nat.pow_add]
  omega
end
end K01
/-! k01: the law's rest. -/
namespace K01
open PySem PySem.Spec PyProof.Rows L2 Mi
set_option linter.unusedVariables false
set_option linter.unusedSimpArgs false
set_option maxRecDepth 10000
set_option exponentiation.threshold 2000
section
variable {call : FKey → List U → MH → Out U} {ns : List Int} {b g p : Nat} {Q : U → MH → Prop} {m : MH}
def sealsOf (ss : List Int) : List Int := ss.map fun s => 3 * s + 17
theorem seals_ok (C : Calls call) {ss : List Int} (hs : SecL m p ss) (hl : ss.length ≤ 20) {x2 x4 x8 x9 x10 x12 : Option U} {P : Env1 → MH → Prop} {R : U → MH → Prop}
    (fin : P [sc ns, some (.ref b), x2, some (.ref p), x4, some (.fl ((sealsOf ss).map U.int)), none, none, x8, x9, x10, none, x12, none, none] m) :
    okS (sAsg (cLc false (cIt (cVar 3)) (gName 13) cYes (cCallK 1 0 (fun as _ m => call ("seal_of", none) as m) (cCons (cVar 13) cNil) cNil) [13]) (gName 5) [sc ns, some (.ref b), x2, some (.ref p), x4, none, none, none, x8, x9, x10, none, x12, none, none] m) P R := by
  simp only [ok_sAsg, ok_cLc, ok_cIt, ok_cVarS, ok_cVar0, ok_itRef hs.1]
  refine ⟨?_, ok_lcR (fun i acc m' => m' = m ∧ acc = (sealsOf (ss.take i)).map U.int) ?_ ⟨rfl, rfl⟩ ?_ ?_⟩
  · show lineOk (ss.map U.int).length = true
    rw [List.length_map]
    exact line_le hl (by decide)
  · rintro i acc m' ⟨rfl, _⟩
    exact hs.1
  · rintro i u acc m' hu ⟨rfl, rfl⟩
    obtain ⟨x, rfl, hx⟩ := map_get hu
    have x0 := (hs.2 x (List.mem_of_getElem? hx)).1
    simp only [ok_gName, wipeU, List.set_cons_succ, List.set_cons_zero, ok_cYes, ok_cCallK, ok_cCons, ok_cVarS, ok_cVar0, ok_cNil]
    refine ⟨fun _ => ⟨rfl, rfl, okO_mono (C.slf _ x x0) ?_⟩, fun h => (nomatch h)⟩
    rintro v m5 ⟨rfl, rfl⟩
    refine ⟨rfl, ?_⟩
    rw [take_succ' hx]
    unfold sealsOf
    rw [List.map_append, List.map_append]
    rfl
  · rintro acc m' ⟨rfl, rfl⟩
    rw [List.length_map, List.take_of_length_le (Nat.le_refl _)]
    simp only [flP, ok_gName, List.set_cons_succ, List.set_cons_zero]
    exact fin
theorem whole_all (C : Calls call) {ks : List Int} (hk : ∀ k ∈ ks, 0 ≤ k) (hl : ks.length ≤ 20) {x2 x4 x8 x9 x10 x12 : Option U} {P : Env1 → MH → Prop} {R : U → MH → Prop} (fin : P [sc ns, some (.ref b), x2, some (.ref p), x4, some (.fl (ks.map U.int)), none, none, x8, x9, x10, none, x12, none, none] m) :
    okS (sIf (cIsBl (cBin neU (cLc false (cIt (cVar 5)) (gName 14) (cNot (cTruth (cCallK 2 0 (fun as _ m => call ("_law_whole", none) as m) (cCons (cVar 14) (cCons (cK (.int 0)) cNil)) cNil))) (cVar 14) [14]) (cFn mkFl cNil))) (sSeq (sRet (cK (.bl false))) sNx) sNx [sc ns, some (.ref b), x2, some (.ref p), x4, some (.fl (ks.map U.int)), none, none, x8, x9, x10, none, x12, none, none] m) P R := by
  simp only [ok_sIf, ok_cIsBl, ok_cBin, ok_cLc, ok_cIt, ok_cVarS, ok_cVar0, ok_itOf_fl]
  refine ⟨?_, ok_lc (us := ks.map U.int) (fun i acc m' => m' = m ∧ acc = []) ⟨rfl, rfl⟩ ?_ ?_⟩
  · show lineOk (ks.map U.int).length = true
    rw [List.length_map]
    exact line_le hl (by decide)
  · rintro i u acc m' hu ⟨rfl, rfl⟩
    obtain ⟨x, rfl, hx⟩ := map_get hu
    have x0 := hk x (List.mem_of_getElem? hx)
    simp only [ok_gName, wipeU, List.set_cons_succ, List.set_cons_zero, ok_cNot, ok_cTruth, ok_cCallK, ok_cCons, ok_cVarS, ok_cVar0, ok_cNil, ok_cK]
    refine ⟨rfl, rfl, okO_mono (C.whole _ x) ?_⟩
    rintro v m5 ⟨rfl, rfl⟩
    rw [decide_eq_true x0, okT_bl]
    exact ⟨fun h => (nomatch h), fun _ => by simp⟩
  · rintro acc m' ⟨rfl, rfl⟩
    have e : eqB (.fl []) (.fl []) m' = some true := eq_nil_fl (gs := [])
    simp only [flP, ok_cFn, ok_cNil, ok_mkFl (us := []) rfl, ok_neOf e, ok_blOf, ok_sNx]
    exact ⟨fun h => (nomatch h), fun _ => fin⟩
end
end K01
/-! k01: the law's comparisons. -/
namespace K01
open PySem PySem.Spec PyProof.Rows L2 Mi
set_option linter.unusedVariables false
set_option linter.unusedSimpArgs false
set_option maxRecDepth 10000
set_option exponentiation.threshold 2000
section
variable {call : FKey → List U → MH → Out U} {ns : List Int} {b g p : Nat} {Q : U → MH → Prop} {m : MH}
theorem ok_strN {n : Nat} (h : n < 10 ^ 20) : okP (biStr [.int (n : Int)] m) Q ↔ Q (.str (Str.ofString (toString (n : Int)))) m := by
  have hb : ((n : Int).natAbs) < 2 ^ 1900 := by
    have e : (n : Int).natAbs = n := rfl
    rw [e]
    exact Nat.lt_of_lt_of_le h (Nat.le_trans (show 10 ^ 20 ≤ 2 ^ 100 by decide) (Nat.pow_le_pow_right (by decide) (by decide)))
  show okP (if decide ((n : Int).natAbs < 2 ^ 1900) = true then some (.str (Str.ofString (toString (n : Int))), m) else none) Q ↔ _
  rw [if_pos (decide_eq_true hb)]
  exact Iff.rfl
theorem at_map {ks : List Int} {i : Nat} {k : Int} (h : ks[i]? = some k) : atI (ks.map U.int) (0 + (i : Nat)) = some (.int k) := by
  have hlt : i < ks.length := (List.getElem?_eq_some_iff.mp h).1
  rw [Int.zero_add, atI_nat (by omega) (by rw [List.length_map]; omega), List.getElem?_map]
  have e : ((i : Nat) : Int).toNat = i := rfl
  rw [e, h]
  rfl
theorem repr_small {n : Nat} (h : n < 10 ^ 20) : (Nat.repr n).length ≤ 20 := (Nat.length_repr_le_iff (by decide)).mpr h
theorem compare_all (C : Calls call) {ss : List Int} (hs : SecL m p ss) (hl : ss.length ≤ 20) {x2 x4 x8 x9 x10 x12 : Option U} {P : Env1 → MH → Prop} {R : U → MH → Prop}
    (fin : ∀ x6 x11, P [sc ns, some (.ref b), x2, some (.ref p), x4, some (.fl ((sealsOf ss).map U.int)), x6, none, x8, x9, x10, x11, x12, none, none] m) :
    okS (sFor (cRng1 (cCons (cFn biLen (cCons (cVar 3) cNil)) cNil)) (gName 6) (sSeq (sIf (cIsBl (cBin (cmpI gtI) (cFn biLen (cCons (cFn biStr (cCons (cBin idxU (cVar 5) (cVar 6)) cNil)) cNil)) (cBin addU (cFn biLen (cCons (cFn biStr (cCons (cBin idxU (cVar 3) (cVar 6)) cNil)) cNil)) (cK (.int 2))))) (sSeq (sRet (cK (.bl false))) sNx) sNx) (sSeq (sFor (cRng1 (cCons (cVar 6) cNil)) (gName 11) (sSeq (sIf (cIsBl (cBin neU (cBin eqU (cBin idxU (cVar 5) (cVar 6)) (cBin idxU (cVar 5) (cVar 11))) (cBin eqU (cBin idxU (cVar 3) (cVar 6)) (cBin idxU (cVar 3) (cVar 11))))) (sSeq (sRet (cK (.bl false))) sNx) sNx) sNx)) sNx))
      [sc ns, some (.ref b), x2, some (.ref p), x4, some (.fl ((sealsOf ss).map U.int)), none, none, x8, x9, x10, none, x12, none, none] m) P R := by
  have rbd : ∀ n : Nat, n ≤ 20 → rngBd (n : Int) = true := fun n hn => by
    unfold rngBd
    rw [Bool.and_eq_true, decide_eq_true_eq, decide_eq_true_eq]
    omega
  have hll : (ss.map U.int).length = ss.length := List.length_map ..
  simp only [ok_sFor, ok_cRng1, ok_cCons, ok_cFn, ok_cVarS, ok_cVar0, ok_cNil, ok_lenR hs.1, hll, ok_rng1, rbd _ hl, true_and]
  refine ok_loop (us := rangeU 0 (ss.length : Int).toNat) (fun i t m' => m' = m ∧ ∃ x6 x11, t = [sc ns, some (.ref b), x2, some (.ref p), x4, some (.fl ((sealsOf ss).map U.int)), x6, none, x8, x9, x10, x11, x12, none, none]) ⟨rfl, none, none, rfl⟩ ?_ ?_
  · rintro i u t m1 hu ⟨rfl, x6, x11, rfl⟩
    obtain ⟨rfl, hi⟩ := rng_get hu
    have hi' : i < ss.length := hi
    have e1 : ss[i]? = some ss[i] := List.getElem?_eq_getElem hi'
    obtain ⟨s0, s1⟩ := hs.2 _ (List.getElem_mem hi')
    generalize hsi : ss[i] = s at e1 s0 s1
    obtain ⟨n, rfl⟩ := Int.eq_ofNat_of_zero_le s0
    have hn : n < 10 ^ 15 := by exact_mod_cast s1
    have e2 : (sealsOf ss)[i]? = some (((3 * n + 17 : Nat)) : Int) := by
      unfold sealsOf
      rw [List.getElem?_map, e1]
      rfl
    have a1 := at_map e1
    have a2 := at_map e2
    have b1 : n < 10 ^ 20 := by omega
    have b2 : 3 * n + 17 < 10 ^ 20 := by omega
    have l1 : lineOk (Str.ofString (toString (n : Int))).length = true := by rw [text_len]; exact line_le (repr_small b1) (by decide)
    have l2 : lineOk (Str.ofString (toString ((3 * n + 17 : Nat) : Int))).length = true := by rw [text_len]; exact line_le (repr_small b2) (by decide)
    simp only [ok_gName, List.set_cons_succ, List.set_cons_zero, ok_sSeq, ok_sIf, ok_cIsBl, ok_cBin, ok_cFn, ok_cCons, ok_cVarS, ok_cVar0, ok_cNil, ok_idxF a2, ok_idxL hs.1 a1, ok_strN b1, ok_strN b2, ok_lenS l1, ok_lenS l2, ok_cK, ok_add, ok_cmpI, ok_blOf, ok_sNx, ok_sRet]
    refine ⟨fun h => ?_, fun _ => ?_⟩
    · have h2 : ((Str.ofString (toString (n : Int))).length : Int) + 2 < ((Str.ofString (toString ((3 * n + 17 : Nat) : Int))).length : Int) := of_decide_eq_true h
      rw [text_len, text_len] at h2
      have := figures (s := n)
      omega
    · have hi20 : i ≤ 20 := by omega
      have rb2 : rngBd (0 + (i : Nat)) = true := by rw [Int.zero_add]; exact rbd i hi20
      simp only [ok_sFor, ok_cRng1, ok_cCons, ok_cVarS, ok_cVar0, ok_cNil, ok_rng1, rb2, true_and]
      refine ok_loop (us := rangeU 0 (0 + (i : Nat) : Int).toNat) (fun j t m' => m' = m1 ∧ ∃ x11, t = [sc ns, some (.ref b), x2, some (.ref p), x4, some (.fl ((sealsOf ss).map U.int)), some (.int (0 + (i : Nat))), none, x8, x9, x10, x11, x12, none, none]) ⟨rfl, x11, rfl⟩ ?_ ?_
      · rintro j u t m2 hu ⟨rfl, y11, rfl⟩
        obtain ⟨rfl, hj⟩ := rng_get hu
        have hj' : j < ss.length := by omega
        have c1 : ss[j]? = some ss[j] := List.getElem?_eq_getElem hj'
        have c2 : (sealsOf ss)[j]? = some (3 * ss[j] + 17) := by
          unfold sealsOf
          rw [List.getElem?_map, c1]
          rfl
        simp only [ok_gName, List.set_cons_succ, List.set_cons_zero, ok_sSeq, ok_sIf, ok_cIsBl, ok_cBin, ok_cVarS, ok_cVar0, ok_idxF a2, ok_idxL hs.1 a1, ok_idxF (at_map c2), ok_idxL hs.1 (at_map c1), ok_eqI, ok_neB, ok_blOf, ok_sNx]
        have ee : decide ((((3 * n + 17 : Nat)) : Int) = 3 * ss[j] + 17) = decide ((n : Int) = ss[j]) := by
          rw [Bool.eq_iff_iff, decide_eq_true_eq, decide_eq_true_eq]
          omega
        rw [ee]
        simp
      · rintro t m2 ⟨rfl, y11, rfl⟩
        exact ⟨rfl, _, _, rfl⟩
  · rintro t m1 ⟨rfl, x6, x11, rfl⟩
    exact fin _ _
end
end K01
/-! k01: what is refused; the law as a whole. -/
namespace K01
open PySem PySem.Spec PyProof.Rows L2 Mi
set_option linter.unusedVariables false
set_option linter.unusedSimpArgs false
set_option maxRecDepth 10000
set_option exponentiation.threshold 2000
section
variable {call : FKey → List U → MH → Out U} {ns : List Int} {b g p : Nat} {Q : U → MH → Prop} {m : MH}
theorem eqv_ints : ∀ ks : List Int, PyData.eqvAll (toDs (ks.map U.int)) (toDs (ks.map U.int)) = true
  | [] => rfl
  | k :: ks => by
    show (PyData.eqv (.int k) (.int k) && PyData.eqvAll (toDs (ks.map U.int)) (toDs (ks.map U.int))) = true
    rw [eqv_ints ks]
    show ((k == k) && true) = true
    simp
theorem eq_same (ks : List Int) : eqB (.fl (ks.map U.int)) (.fl (ks.map U.int)) m = some true := by
  unfold eqB
  show (if (okD (.fl (ks.map U.int)) && okD (.fl (ks.map U.int))) = true then some (PyData.eqvAll (toDs (ks.map U.int)) (toDs (ks.map U.int))) else none) = _
  rw [okD_ints, eqv_ints]
  rfl
theorem ok_revR {us : List U} (h : m[p]? = some (.lst us)) : okP (revU (.ref p) m) Q ↔ Q (.fl us.reverse) m := by
  have e : revU (.ref p) m = some (.fl us.reverse, m) := by
    unfold revU seqL
    simp only [h, Option.map_some]
  rw [e]
  exact Iff.rfl
theorem ok_revF {us : List U} : okP (revU (.fl us) m) Q ↔ Q (.fl us.reverse) m := Iff.rfl
abbrev badL (c : Int) (d : Nat) : List U := [.int (-1 - c), .bl true, .bl false, .non, .str "3", .tup [.int 3], .fl [.int 3], .ref d]
theorem badL_no {c : Int} {d : Nat} (h0 : 0 ≤ c) (hd : m[d]? = some (.dic false [])) : ∀ u ∈ badL c d, NoSec u m := by
  intro u hu
  simp only [badL, List.mem_cons, List.not_mem_nil, or_false] at hu
  rcases hu with rfl | rfl | rfl | rfl | rfl | rfl | rfl | rfl
  · exact .inr ⟨_, rfl, by omega⟩
  · exact .inl ⟨"bool", rfl, by decide⟩
  · exact .inl ⟨"bool", rfl, by decide⟩
  · exact .inl ⟨"NoneType", rfl, by decide⟩
  · exact .inl ⟨"str", rfl, by decide⟩
  · exact .inl ⟨"tuple", rfl, by decide⟩
  · exact .inl ⟨"list", rfl, by decide⟩
  · refine .inl ⟨"dict", ?_, by decide⟩
    unfold tyU
    simp only [hd]
theorem law_end (C : Calls call) {ss : List Int} {N : Nat} (h : Bag m b g N) (hN : N + 1000 < 10 ^ 9) (hs : SecL m p ss) (hl : ss.length ≤ 20) (n1 : p ≠ b) (n2 : p ≠ g) {x2 x4 x6 x8 x9 x10 x11 x12 : Option U} :
    okS (sSeq (sAsg (cFn mkFl (cCons (cBin subU (cUn negU (cK (.int 1))) (cCallK 1 0 (fun as _ m => call ("_law_count", none) as m) (cCons (cVar 1) cNil) cNil)) (cCons (cK (.bl true)) (cCons (cK (.bl false)) (cCons (cK .non) (cCons (cK (.str "3")) (cCons (cFn mkTup (cCons (cK (.int 3)) cNil)) (cCons (cFn mkFl (cCons (cK (.int 3)) cNil)) (cCons cDic cNil))))))))) (gName 7)) (sSeq (sFor (cRng1 (cCons (cK (.int 3)) cNil)) (gName 2) (sSeq (sIf (cNot (cTruth (cCallK 1 0 (fun as _ m => call ("_law_refused", none) as m) (cCons (cBin idxU (cVar 7) (cCallK 2 0 (fun as _ m => call ("_law_draw", none) as m) (cCons (cVar 1) (cCons (cK (.int 8)) cNil)) cNil)) cNil) cNil))) (sSeq (sRet (cK (.bl false))) sNx) sNx) sNx)) (sSeq (sRet (cBin eqU (cLc false (cIt (cUn revU (cVar 3))) (gName 13) cYes (cCallK 1 0 (fun as _ m => call ("seal_of", none) as m) (cCons (cVar 13) cNil) cNil) [13]) (cUn revU (cVar 5)))) sNx))
      [sc ns, some (.ref b), x2, some (.ref p), x4, some (.fl ((sealsOf ss).map U.int)), x6, none, x8, x9, x10, x11, x12, none, none] m) (fun _ _ => False) fun v _ => v = .bl true := by
  rw [ok_sSeq]
  simp only [ok_sAsg, ok_cFn, ok_cCons, ok_cBin, ok_cUn, ok_cK, ok_neg, ok_cCallK, ok_cVarS, ok_cVar0, ok_cNil]
  refine ⟨rfl, rfl, okO_mono (C.count m b g N h (by omega)) ?_⟩
  rintro v m1 ⟨c, rfl, c0, c1, h1, f1⟩
  have hs1 := hs.fr f1 n1 n2
  simp only [ok_sub, ok_mkTup (us := [.int 3]) rfl, ok_mkFl (us := [.int 3]) rfl, ok_cDic]
  rw [ok_mkFl rfl]
  simp only [ok_gName, List.set_cons_succ, List.set_cons_zero]
  have h2 := bag_push h1 (.dic false [])
  obtain ⟨lb, lg⟩ := bag_lt h1
  have lp : p < m1.length := get_lt hs1.1
  have hs2 : SecL (m1 ++ [.dic false []]) p ss := ⟨by rw [List.getElem?_append_left lp]; exact hs1.1, hs1.2⟩
  have hd : (m1 ++ [MO.dic false []])[m1.length]? = some (.dic false []) := by
    rw [List.getElem?_append_right (Nat.le_refl _), Nat.sub_self]
    rfl
  rw [ok_sSeq]
  simp only [ok_sFor, ok_cRng1, ok_cCons, ok_cK, ok_cNil, ok_rng1]
  refine ⟨rfl, ok_loop (us := rangeU 0 3) (fun i t m' => ∃ x2, t = [sc ns, some (.ref b), x2, some (.ref p), x4, some (.fl ((sealsOf ss).map U.int)), x6, some (.fl (badL c m1.length)), x8, x9, x10, x11, x12, none, none] ∧ Bag m' b g (N + 2 + i) ∧ SecL m' p ss ∧ m'[m1.length]? = some (.dic false [])) ⟨x2, rfl, h2, hs2, hd⟩ ?_ ?_⟩
  · rintro i u t m2 hu ⟨y2, rfl, h3, hs3, hd3⟩
    obtain ⟨rfl, hi⟩ := rng_get hu
    simp only [ok_gName, List.set_cons_succ, List.set_cons_zero, ok_sSeq, ok_sIf, ok_cNot, ok_cTruth, ok_cCallK, ok_cCons, ok_cBin, ok_cVarS, ok_cVar0, ok_cK, ok_cNil]
    refine ⟨rfl, rfl, okO_mono (C.draw m2 b g _ 8 h3 (by omega) (by decide) (by decide)) ?_⟩
    rintro v m3 ⟨j, rfl, j0, j1, h4, f4⟩
    have hd4 : m3[m1.length]? = some (.dic false []) := by
      rw [f4.2 _ (by omega) (by omega)]
      exact hd3
    obtain ⟨u, eu, hu⟩ : ∃ u, atI (badL c m1.length) j = some u ∧ u ∈ badL c m1.length := by
      rw [atI_nat j0 (by show j < 8; exact j1)]
      have hlt : j.toNat < (badL c m1.length).length := by show j.toNat < 8; omega
      rw [List.getElem?_eq_getElem hlt]
      exact ⟨_, rfl, List.getElem_mem hlt⟩
    rw [ok_idxF eu]
    refine ⟨rfl, rfl, okO_mono (C.refu m3 u (badL_no c0 hd4 u hu)) ?_⟩
    rintro v m4 ⟨rfl, rfl⟩
    simp only [okT_bl, ok_sNx, Bool.not_true]
    exact ⟨fun h => (nomatch h), fun _ => ⟨_, rfl, h4, hs3.fr f4 n1 n2, hd4⟩⟩
  · rintro t m2 ⟨y2, rfl, h3, hs3, hd3⟩
    simp only [ok_sSeq, ok_sRet, ok_cBin, ok_cLc, ok_cIt, ok_cUn, ok_cVarS, ok_cVar0, ok_revR hs3.1, ok_itOf_fl]
    have er : (ss.map U.int).reverse = ss.reverse.map U.int := by rw [List.map_reverse]
    rw [er]
    refine ⟨?_, ok_lc (us := ss.reverse.map U.int) (fun i acc m' => m' = m2 ∧ acc = (sealsOf (ss.reverse.take i)).map U.int) ⟨rfl, rfl⟩ ?_ ?_⟩
    · show lineOk (ss.reverse.map U.int).length = true
      rw [List.length_map, List.length_reverse]
      exact line_le hl (by decide)
    · rintro i u acc m' hu ⟨rfl, rfl⟩
      obtain ⟨x, rfl, hx⟩ := map_get hu
      have x0 := (hs.2 x (List.mem_reverse.mp (List.mem_of_getElem? hx))).1
      simp only [ok_gName, wipeU, List.set_cons_succ, List.set_cons_zero, ok_cYes, ok_cCallK, ok_cCons, ok_cVarS, ok_cVar0, ok_cNil]
      refine ⟨fun _ => ⟨rfl, rfl, okO_mono (C.slf _ x x0) ?_⟩, fun h => (nomatch h)⟩
      rintro v m5 ⟨rfl, rfl⟩
      refine ⟨rfl, ?_⟩
      rw [take_succ' hx]
      unfold sealsOf
      rw [List.map_append, List.map_append]
      rfl
    · rintro acc m' ⟨rfl, rfl⟩
      rw [List.length_map, List.take_of_length_le (Nat.le_refl _)]
      have e2 : ((sealsOf ss).map U.int).reverse = (sealsOf ss.reverse).map U.int := by
        unfold sealsOf
        rw [List.map_reverse, List.map_reverse]
      simp only [flP, ok_revF, e2, ok_eqOf (eq_same _)]
theorem law_ok (C : Calls call) (hl : ns.length ≤ 63) : okS (c_law call [sc ns, none, none, none, none, none, none, none, none, none, none, none, none, none, none] []) (fun _ _ => False) fun v _ => v = .bl true := by
  unfold c_law
  rw [ok_sSeq]
  simp only [ok_sAsg, ok_cCallK, ok_cCons, ok_cVar0, ok_cNil, ok_gName, List.set_cons_succ, List.set_cons_zero]
  refine ⟨rfl, rfl, okO_mono (C.bag ns hl []) ?_⟩
  rintro v m1 ⟨rfl, h1, _, _⟩
  rw [ok_sSeq]
  refine loop1 C h1 (by decide) ?_
  intro x2 x8 x9 x12 m2 h2
  obtain ⟨lb, lg⟩ := bag_lt h2
  rw [ok_sSeq]
  simp only [ok_sAsg, ok_cFn, ok_cNil, ok_mkLst (us := []) rfl, ok_gName, List.set_cons_succ, List.set_cons_zero]
  rw [ok_sSeq]
  refine loop2 C (p := m2.length) (bag_push h2 _) (by decide) ⟨?_, fun _ h => (nomatch h)⟩ (by omega) (by omega) ?_
  · rw [List.getElem?_append_right (Nat.le_refl _), Nat.sub_self]
    rfl
  intro x4 x10 m3 ss h3 hs hsl
  rw [ok_sSeq]
  refine seals_ok C hs hsl ?_
  rw [ok_sSeq]
  refine whole_all C (fun k hk => ?_) (by unfold sealsOf; rw [List.length_map]; exact hsl) ?_
  · obtain ⟨s, hs', rfl⟩ := List.mem_map.mp hk
    have := (hs.2 s hs').1
    omega
  rw [ok_sSeq]
  refine compare_all C hs hsl fun x6 x11 => ?_
  exact law_end C h3 (by decide) hs hsl (by omega) (by omega)
end
theorem spec : ∀ ns : List Int, ns.length ≤ 63 → ∃ m, callN ld.sta 8 ("law", none) [.cl (ns.map U.int)] [] = .ok (.bl true) m := by
  intro ns hl
  have key : okO (callN ld.sta 8 ("law", none) [.cl (ns.map U.int)] []) fun v _ => v = .bl true := by
    rw [callN_some (n := 7) (f := d_law) (by kernel_rfl)]
    exact ok_run (e_law _) rfl (okS_mono (law_ok (calls 3) hl) (fun _ _ h => h.elim) fun _ _ h => h)
  cases e : callN ld.sta 8 ("law", none) [.cl (ns.map U.int)] [] with
  | ok v m =>
    rw [e] at key
    have key' : v = .bl true := key
    rw [key']
    exact ⟨m, rfl⟩
  | err x m =>
    rw [e] at key
    exact key.elim
  | bad =>
    rw [e] at key
    exact key.elim
end K01
/-! k01: the head. -/
namespace K01
open PySem PySem.Spec PyProof.Rows L2 Mi
set_option maxRecDepth 100000
set_option maxHeartbeats 0
abbrev hk : PySem.W.Hook := hookU 4 ld.chk (ld.es.map (·.d))
def ob (s : PySem.W.SharedT) : AlU := obsUG 4 ld.chk (ld.es.map (·.d)) (HandSHeadRun.getT s)
theorem ob_eq (s : PySem.W.SharedT) : ob s = hk.obs s.abs := obsUG_eq (HandSHeadRun.getT_eq s)
def loose1 : List Str := ["__name__", "CoinError", "NoName", "NoSecret", "NoNumber", "NoCoins", "NoState", "NoStep", "NoPaper", "NoHand", "NoLane", "NotSigned", "Settled", "Old", "NotYours", "Waiting", "NoLetter", "NoNet", "NoFees", "NoWay", "NoHops"]
def loose2 : List Str := ["Twice", "Begun", "NoBill", "NoDeed", "NoText", "NoRow", "Stuck", "LETTERS", "LONGEST", "FIRST_SEAL", "STRETCH", "is_whole", "is_count", "is_name", "seal_of", "_law_bag", "_law_draw", "_law_count", "_law_name", "_law_whole", "_law_is_name", "_law_bent", "_law_refused"]
theorem run (w : World) : HandSHeadRun.RunEq R (PySem.W.view R.prog [46]) hk ob 20000 (loose1 ++ loose2) w := by
  intro os
  kernel_rfl
end K01
namespace K01
open PySem PySem.Spec PyProof.Rows L2 Mi
set_option maxRecDepth 100000
set_option maxHeartbeats 0
end K01
open PySem PySem.W PySem.Calls PyProof.Rows
theorem PySem.Challenge.cw_coinlanes_k01_names_and_seals_holds : PySem.Challenge.rw_coinlanes_k01_names_and_seals.Holds := by
  w_on; o_law
  refine HandSHeadRun.head_any (r := K01.R) (q := view K01.R.prog [46]) (H := K01.hk) (ob := K01.ob) (M := 20000) (loose := K01.loose1 ++ K01.loose2) (d := HandSHeadRun.topDef K01.R.prog 46) (kwd := []) K01.ob_eq
    (by kernel_rfl) (fun s => by kernel_rfl) K01.run (by kernel_rfl) (by kernel_rfl) (by kernel_rfl) (by rfl) (by first | assumption | decide +kernel) (by decide +kernel) ⟨rfl, rfl, rfl, rfl, rfl, by decide +kernel⟩ ?hw ?hc
  case hw => w_witness2
  case hc => exact Mi.law_walk (l := K01.OL) (x := "_law_script") K01.ld 8 K01.d_law rfl rfl ⟨rfl, by decide, by decide⟩ K01.ok_all (by kernel_rfl) rfl rfl (by kernel_rfl) K01.spec
